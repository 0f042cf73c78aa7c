import PyProof.Rows.All
import Wide.All
import OpenK.AllK
import Wide.FinOn
import PySem.Challenge.RW_benchline_k08_whole_fewest_moves
import HandS.ForMost
import HandS.Exc
import KE.KDictKeyed
import HandS.Lambda
import HandS.TupAny
import HandS.TupMul
import HandS.TupLe
import HandS.Deep
import HandS.CallSlots
import HandS.Iter
import HandS.WordsExc
import HandS.TryMany
import HandS.Small
import HandS.WordsDict
import KE.KDictDisplayH
import HandS.Conv
import HandS.TupLen
import HandS.More
import KE.SortData
import PyProof.TupleOfSeq
import PyProof.SumWalkG
import PyProof.WalksMore
import KE.DataMinMax
import HandS.IsInst
import HandS.SortKw
import HandS.Zip
import KE.GoesEnum
import KE.GoesMore
import HandS.DictComp
import HandS.Style
import HandS.HeadEnd
import HandS.Head0
import HandS.Head1
import HandS.Head2
import HandS.HeadHook1
import HandS.HeadHook2
import HandS.HeadHook4
import HandS.ExcInit
import KE.KExcSuper
import HandS.HotCalls
import HandS.ExcField
import KE.KExcIs
import PyProof.ReprReads
import PyProof.StrHeap
import HandS.SetFor
import HandS.EndTab
import HandS.OwnEq
import PyProof.SetRoads
import KE.KIndexOf
import PyProof.ReprLen
set_option Elab.async false
set_option linter.all false
set_option maxRecDepth 100000
set_option maxHeartbeats 0
section S_Ev0
namespace Ev
open PySem PySem.Spec PyProof.Rows L2
abbrev SSt := L2.St
/-! ### values -/
/-- a value that nothing changes: what is within is told with it -/
inductive PV where
  | non | bl (b : Bool) | int (i : Int) | str (x : Str)
  | tup (xs : List PV) | lst (xs : List PV) | dct (nk : Bool) (ks us : List PV) | ins (c : Nat) (fs : List Str) (us : List PV)
  | ty (n : String) | glb (g : Nat) | lsf (xs : List PV)
/-- a value: one that nothing changes, or an object of the store -/
inductive VV where
  | p (x : PV) | ref (n : Nat)
/-- an object of the store; lk: it is walked, so nobody may change it; nk: keys are nested tuples; lkl: a list that is walked -/
inductive Ob where
  | lst (lk : Bool) (xs : List PV) | dct (nk lk : Bool) (ks us : List PV) | ins (c : Nat) (fs : List Str) (us : List VV) | lkl (xs : List PV)
abbrev Sto := List (Option Ob)
abbrev EE := List (Option VV)
mutual
def PV.toD : PV → Option PyData
  | .non => some .none
  | .bl b => some (.bool b)
  | .int i => some (.int i)
  | .str x => some (.str x)
  | .tup xs => (PV.toDs xs).map .tuple
  | .lst xs => (PV.toDs xs).map .list
  | .dct _ _ _ => none
  | .ins _ _ _ => none
  | .ty _ => none
  | .glb _ => none
  | .lsf _ => none
def PV.toDs : List PV → Option (List PyData)
  | [] => some []
  | x :: xs => match PV.toD x, PV.toDs xs with
    | some d, some ds => some (d :: ds)
    | _, _ => none
end
mutual
def PV.toK : PV → Option NestedKey
  | .non => some NestedKey.none
  | .bl b => some (NestedKey.num (if b then 1 else 0))
  | .int i => some (NestedKey.num i)
  | .str x => some (NestedKey.text x)
  | .tup xs => (PV.toKs xs).map NestedKey.tup
  | .lst _ => none
  | .dct _ _ _ => none
  | .ins _ _ _ => none
  | .ty _ => none
  | .glb _ => none
  | .lsf _ => none
def PV.toKs : List PV → Option (List NestedKey)
  | [] => some []
  | x :: xs => match PV.toK x, PV.toKs xs with
    | some d, some ds => some (d :: ds)
    | _, _ => none
end
/-- a flat key -/
def kP : Key → PV
  | .inl i => .int i
  | .inr x => .str x
/-! ### the view: which objects stand for what -/
structure Vw where
  H : Hp
  Z : Addr → Prop
  F : Addr → Prop
  al : Nat → Addr
  st : Sto
/-- a dict whose keys are (nested) tuples -/
def dnPhi (w : World) (a : Addr) (xs : List (NestedKey × Addr × V)) (h : Heap) : Prop :=
  (a == sysModules) = false ∧ xs.length ≤ sizeLine ∧ ∃ o es ep, h.get? a = some o ∧ o.ExactDict ∧ o.data = .dict es ep ∧
    Paired (fun (x : NestedKey × Addr × V) (e : DictEntry) => ∃ v, RelV x.2.2 v ∧ e = ⟨x.1.hash w, .ref x.2.1, v⟩) xs es.toList ∧ (xs.map (·.1)).Nodup
def DN (w : World) (a : Addr) (xs : List (NestedKey × Addr × V)) : HO := .ext (dnPhi w a xs)
/-- u stands at a for good: it is walked, or a value -/
def Fz (H : Hp) (a : Addr) (u : HO) : Prop := ∃ o, H a = some (.frz o u)
theorem Fz.rd {H : Hp} {a : Addr} {u : HO} (h : Fz H a u) : Rd H a u := .inr h
/-- a list that nothing changes -/
def Sf (K : PySem.W.Frag) (H : Hp) (Z : Addr → Prop) (a : Addr) (vs : List V) : Prop := (Z a ∧ Rd H a (.lst vs)) ∨ ∃ (o : Obj) (its : Array Value) (n : Nat), K.lookup a = some o ∧ o.cls = .type "list" ∧ o.dict = none ∧ o.data = .seq its n ∧ its.size ≤ sizeLine ∧ Vals vs its.toList
theorem Sf.sq {K : PySem.W.Frag} {H : Hp} {Z : Addr → Prop} {a : Addr} {vs : List V} (h : Sf K H Z a vs) : SqL K H a vs := h.elim (fun h => .inl h.2) .inr
section
variable (w : World) (K : PySem.W.Frag) (G : Nat → Addr) (H : Hp) (Z : Addr → Prop)
mutual
/-- the value v stands for x -/
def RelP : PV → V → Prop
  | .non, v => v = .non
  | .bl b, v => v = .bl b
  | .int i, v => v = .int i
  | .str x, v => v = .str x
  | .tup xs, v => ∃ a vs, v = .ref a ∧ SqT K H a vs ∧ vs.length ≤ sizeLine ∧ RelPs xs vs
  | .lst xs, v => ∃ a vs, v = .ref a ∧ Z a ∧ H a = some (.lst vs) ∧ vs.length ≤ sizeLine ∧ RelPs xs vs
  | .dct false ks us, v => ∃ a, v = .ref a ∧ Z a ∧ ∃ kvs : List (Key × V), Fz H a (.dK kvs) ∧ ks = kvs.map (fun kv => kP kv.1) ∧ RelPs us (kvs.map (·.2))
  | .dct true ks us, v => ∃ a, v = .ref a ∧ Z a ∧ ∃ xs : List (NestedKey × Addr × V), Fz H a (DN w a xs) ∧ PV.toKs ks = some (xs.map (·.1)) ∧ (∀ x ∈ xs, x.1.depth ≤ 8) ∧ RelPs ks (xs.map fun x => V.ref x.2.1) ∧ RelPs us (xs.map (·.2.2))
  | .ins c fs us, v => ∃ a dx vs, v = .ref a ∧ Z a ∧ H a = some (.ins (G c) dx (fs.zip vs)) ∧ vs.length = fs.length ∧ RelPs us vs
  | .ty n, v => v = .ty n
  | .glb g, v => v = .ref (G g)
  | .lsf xs, v => ∃ a vs, v = .ref a ∧ Sf K H Z a vs ∧ vs.length ≤ sizeLine ∧ RelPs xs vs
def RelPs : List PV → List V → Prop
  | [], vs => vs = []
  | x :: xs, vs => ∃ v r, vs = v :: r ∧ RelP x v ∧ RelPs xs r
end
end
def RelVV (w : World) (K : PySem.W.Frag) (G : Nat → Addr) (vw : Vw) : VV → V → Prop
  | .p x, v => RelP w K G vw.H vw.Z x v
  | .ref n, v => n < vw.st.length ∧ v = .ref (vw.al n)
def RelVs (w : World) (K : PySem.W.Frag) (G : Nat → Addr) (vw : Vw) : List VV → List V → Prop
  | [], vs => vs = []
  | x :: xs, vs => ∃ v r, vs = v :: r ∧ RelVV w K G vw x v ∧ RelVs w K G vw xs r
/-- u stands at a, walked or not -/
def Lk (H : Hp) (a : Addr) (u : HO) : Bool → Prop
  | true => ∃ o, H a = some (.frz o u)
  | false => H a = some u
/-- the object at a is as ob tells -/
def OkOb (w : World) (K : PySem.W.Frag) (G : Nat → Addr) (vw : Vw) (a : Addr) : Ob → Prop
  | .lst _ xs => ∃ vs, vw.H a = some (.lst vs) ∧ vs.length ≤ sizeLine ∧ RelPs w K G vw.H vw.Z xs vs
  | .dct true lk ks us => ∃ xs : List (NestedKey × Addr × V), Lk vw.H a (DN w a xs) lk ∧ PV.toKs ks = some (xs.map (·.1)) ∧ (∀ x ∈ xs, x.1.depth ≤ 8) ∧
        RelPs w K G vw.H vw.Z ks (xs.map fun x => V.ref x.2.1) ∧ RelPs w K G vw.H vw.Z us (xs.map (·.2.2))
  | .dct false lk ks us => ∃ kvs : List (Key × V), Lk vw.H a (.dK kvs) lk ∧ ks = kvs.map (fun kv => kP kv.1) ∧ RelPs w K G vw.H vw.Z us (kvs.map (·.2))
  | .ins c fs us => ∃ dx vs, vw.H a = some (.ins (G c) dx (fs.zip vs)) ∧ vs.length = fs.length ∧ RelVs w K G vw us vs
  | .lkl xs => ∃ vs, (∃ o, vw.H a = some (.frz o (.lst vs))) ∧ vs.length ≤ sizeLine ∧ RelPs w K G vw.H vw.Z xs vs
/-- names of the lambdas' tables -/
def lamNames : List Str := ["law.<locals>.<lambda>", "require_asked.<locals>.<lambda>", "require_offers.<locals>.<lambda>", "require_places.<locals>.<lambda>"]
/-- a def's table of code objects: each bears the name q, and stands for good -/
def TabW (H : Hp) (Z F : Addr → Prop) (P : Addr) (q : Str) : Prop := ¬ Z P ∧ ¬ F P ∧ ∃ ps : Array Value, H P = some (.tbl ps) ∧ TriplesOk ps.toList ∧ ∀ (pos : Pos) (cv : Value), codeAmong pos ps.toList = some cv → ∃ c oc, cv = .ref c ∧ Z c ∧ H c = some (.frz oc (LamX.CodeO c q))
theorem TabW.move {H H' : Hp} {Z Z' F F' : Addr → Prop} {P : Addr} {q : Str} (t : TabW H Z F P q) (hz : ∀ a, Z a → Z' a) (z1 : ∀ a, Z' a → Z a ∨ ∀ ps, H a ≠ some (.tbl ps)) (f1 : ∀ a, F' a → F a ∨ ∀ ps, H a ≠ some (.tbl ps)) (h1 : ∀ ps, H P = some (.tbl ps) → H' P = some (.tbl ps)) (h2 : ∀ a o u, Z a → H a = some (.frz o u) → H' a = some (.frz o u)) : TabW H' Z' F' P q := by
  obtain ⟨nz, nf, ps, a, b, c⟩ := t
  refine ⟨fun z => (z1 _ z).elim nz fun n => n _ a, fun f => (f1 _ f).elim nf fun n => n _ a, ps, h1 _ a, b, fun pos cv e => ?_⟩
  obtain ⟨x, oc, e1, e2, e3⟩ := c pos cv e
  exact ⟨x, oc, e1, hz _ e2, h2 _ _ _ e2 e3⟩
/-- all tables; G (1000 + k): one more than the k-th table's address -/
def Tabl (G : Nat → Addr) (H : Hp) (Z F : Addr → Prop) : Prop := ∀ k q P, lamNames[k]? = some q → G (1000 + k) = P + 1 → TabW H Z F P q
theorem Tabl.move {G : Nat → Addr} {H H' : Hp} {Z Z' F F' : Addr → Prop} (t : Tabl G H Z F) (hz : ∀ a, Z a → Z' a) (z1 : ∀ a, Z' a → Z a ∨ ∀ ps, H a ≠ some (.tbl ps)) (f1 : ∀ a, F' a → F a ∨ ∀ ps, H a ≠ some (.tbl ps)) (h1 : ∀ P ps, H P = some (.tbl ps) → H' P = some (.tbl ps)) (h2 : ∀ a o u, Z a → H a = some (.frz o u) → H' a = some (.frz o u)) : Tabl G H' Z' F' := fun k q P e1 e2 => (t k q P e1 e2).move hz z1 f1 (h1 P) h2
/-- the view is sound -/
structure VOk (w : World) (K : PySem.W.Frag) (G : Nat → Addr) (vw : Vw) : Prop where
  zf : ∀ a, vw.Z a → vw.F a → False
  fn : ∀ a, vw.F a → vw.H a ≠ none
  zn : ∀ a, vw.Z a → vw.H a ≠ none
  ob : ∀ n o, vw.st[n]? = some (some o) → OkOb w K G vw (vw.al n) o
  nz : ∀ n o, vw.st[n]? = some (some o) → ¬ vw.Z (vw.al n) ∧ ¬ vw.F (vw.al n)
  inj : ∀ n m o o', vw.st[n]? = some (some o) → vw.st[m]? = some (some o') → vw.al n = vw.al m → n = m
  tab : Tabl G vw.H vw.Z vw.F
/-- a list, an instance -/
def isLI : HO → Bool
  | .lst _ => true
  | .ins _ _ _ => true
  | _ => false
/-- a later view -/
structure Le (K : PySem.W.Frag) (vw vw' : Vw) : Prop where
  z : ∀ a, vw.Z a → vw'.Z a
  zr : ∀ a u, vw.Z a → Rd vw.H a u → Rd vw'.H a u
  ze : ∀ a o, vw.Z a → isLI o = true → vw.H a = some o → vw'.H a = some o
  f : vw'.F = vw.F
  fr : ∀ a, vw.F a → vw'.H a = vw.H a
  tu : ∀ a vs, SqT K vw.H a vs → SqT K vw'.H a vs
  al : ∀ n, n < vw.st.length → vw'.al n = vw.al n
  len : vw.st.length ≤ vw'.st.length
  fz : ∀ a o u, vw.H a = some (.frz o u) → vw'.H a = some (.frz o u)
section
variable {w : World} {K : PySem.W.Frag} {G : Nat → Addr} {vw vw1 vw2 : Vw}
theorem Le.rfl' : Le K vw vw := ⟨fun _ h => h, fun _ _ _ h => h, fun _ _ _ _ h => h, rfl, fun _ _ => rfl, fun _ _ h => h, fun _ _ => rfl, Nat.le_refl _, fun _ _ _ h => h⟩
theorem Le.trans (a : Le K vw vw1) (b : Le K vw1 vw2) : Le K vw vw2 where
  z := fun x h => b.z x (a.z x h)
  zr := fun x u h r => b.zr x u (a.z x h) (a.zr x u h r)
  ze := fun x o h i r => b.ze x o (a.z x h) i (a.ze x o h i r)
  f := b.f.trans a.f
  fr := fun x h => (b.fr x (by rw [a.f]; exact h)).trans (a.fr x h)
  tu := fun x vs h => b.tu x vs (a.tu x vs h)
  al := fun n h => (b.al n (Nat.lt_of_lt_of_le h a.len)).trans (a.al n h)
  len := Nat.le_trans a.len b.len
  fz := fun x o u h => b.fz x o u (a.fz x o u h)
mutual
theorem RelP.mono {H H' : Hp} {Z Z' : Addr → Prop} (hz : ∀ a, Z a → Z' a) (zr : ∀ a u, Z a → Rd H a u → Rd H' a u) (ze : ∀ a o, Z a → isLI o = true → H a = some o → H' a = some o) (tu : ∀ a vs, SqT K H a vs → SqT K H' a vs) (fz : ∀ a u, Z a → Fz H a u → Fz H' a u) :
    ∀ (x : PV) (v : V), RelP w K G H Z x v → RelP w K G H' Z' x v
  | .non, _, h => by rw [RelP] at h ⊢; exact h
  | .bl _, _, h => by rw [RelP] at h ⊢; exact h
  | .int _, _, h => by rw [RelP] at h ⊢; exact h
  | .str _, _, h => by rw [RelP] at h ⊢; exact h
  | .ty _, _, h => by rw [RelP] at h ⊢; exact h
  | .glb _, _, h => by rw [RelP] at h ⊢; exact h
  | .tup xs, _, h => by
    rw [RelP] at h ⊢
    obtain ⟨a, vs, e, t, z, r⟩ := h
    exact ⟨a, vs, e, tu _ _ t, z, RelPs.mono hz zr ze tu fz xs vs r⟩
  | .lst xs, _, h => by
    rw [RelP] at h ⊢
    obtain ⟨a, vs, e, z, t, l, r⟩ := h
    exact ⟨a, vs, e, hz _ z, ze _ _ z rfl t, l, RelPs.mono hz zr ze tu fz xs vs r⟩
  | .lsf xs, _, h => by
    rw [RelP] at h ⊢
    obtain ⟨a, vs, e, z, l, r⟩ := h
    exact ⟨a, vs, e, z.elim (fun z => .inl ⟨hz _ z.1, zr _ _ z.1 z.2⟩) .inr, l, RelPs.mono hz zr ze tu fz xs vs r⟩
  | .dct false ks us, _, h => by
    rw [RelP] at h ⊢
    obtain ⟨a, e, z, kvs, t, ek, r⟩ := h
    exact ⟨a, e, hz _ z, kvs, fz _ _ z t, ek, RelPs.mono hz zr ze tu fz us _ r⟩
  | .dct true ks us, _, h => by
    rw [RelP] at h ⊢
    obtain ⟨a, e, z, xs, t, ek, d, r1, r2⟩ := h
    exact ⟨a, e, hz _ z, xs, fz _ _ z t, ek, d, RelPs.mono hz zr ze tu fz ks _ r1, RelPs.mono hz zr ze tu fz us _ r2⟩
  | .ins c fs us, _, h => by
    rw [RelP] at h ⊢
    obtain ⟨a, dx, vs, e, z, t, l, r⟩ := h
    exact ⟨a, dx, vs, e, hz _ z, ze _ _ z rfl t, l, RelPs.mono hz zr ze tu fz us vs r⟩
theorem RelPs.mono {H H' : Hp} {Z Z' : Addr → Prop} (hz : ∀ a, Z a → Z' a) (zr : ∀ a u, Z a → Rd H a u → Rd H' a u) (ze : ∀ a o, Z a → isLI o = true → H a = some o → H' a = some o) (tu : ∀ a vs, SqT K H a vs → SqT K H' a vs) (fz : ∀ a u, Z a → Fz H a u → Fz H' a u) :
    ∀ (xs : List PV) (vs : List V), RelPs w K G H Z xs vs → RelPs w K G H' Z' xs vs
  | [], _, h => by rw [RelPs] at h ⊢; exact h
  | x :: xs, _, h => by
    rw [RelPs] at h ⊢
    obtain ⟨v, r, e, h1, h2⟩ := h
    exact ⟨v, r, e, RelP.mono hz zr ze tu fz x v h1, RelPs.mono hz zr ze tu fz xs r h2⟩
end
theorem Le.p (l : Le K vw vw1) {x : PV} {v : V} (h : RelP w K G vw.H vw.Z x v) : RelP w K G vw1.H vw1.Z x v := RelP.mono l.z l.zr l.ze l.tu (fun a u _ ⟨o, h⟩ => ⟨o, l.fz a o u h⟩) x v h
theorem Le.ps (l : Le K vw vw1) {x : List PV} {v : List V} (h : RelPs w K G vw.H vw.Z x v) : RelPs w K G vw1.H vw1.Z x v := RelPs.mono l.z l.zr l.ze l.tu (fun a u _ ⟨o, h⟩ => ⟨o, l.fz a o u h⟩) x v h
/-- what stands for good stands still -/
structure Lz (K : PySem.W.Frag) (vw vw' : Vw) : Prop where
  z : ∀ a, vw.Z a → vw'.Z a
  zr : ∀ a u, vw.Z a → Rd vw.H a u → Rd vw'.H a u
  ze : ∀ a o, vw.Z a → isLI o = true → vw.H a = some o → vw'.H a = some o
  tu : ∀ a vs, SqT K vw.H a vs → SqT K vw'.H a vs
  fz : ∀ a o u, vw.H a = some (.frz o u) → vw'.H a = some (.frz o u)
theorem Le.lz (l : Le K vw vw1) : Lz K vw vw1 := ⟨l.z, l.zr, l.ze, l.tu, l.fz⟩
theorem Lz.p (l : Lz K vw vw1) {x : PV} {v : V} (h : RelP w K G vw.H vw.Z x v) : RelP w K G vw1.H vw1.Z x v := RelP.mono l.z l.zr l.ze l.tu (fun a u _ ⟨o, h⟩ => ⟨o, l.fz a o u h⟩) x v h
theorem Sf.mono {a : Addr} {vs : List V} (l : Lz K vw vw1) (h : Sf K vw.H vw.Z a vs) : Sf K vw1.H vw1.Z a vs := h.elim (fun z => .inl ⟨l.z _ z.1, l.zr _ _ z.1 z.2⟩) .inr
theorem Le.v (l : Le K vw vw1) {x : VV} {v : V} (h : RelVV w K G vw x v) : RelVV w K G vw1 x v := by
  cases x with
  | p x => exact l.p h
  | ref n => exact ⟨Nat.lt_of_lt_of_le h.1 l.len, by rw [l.al n h.1]; exact h.2⟩
theorem Le.vs (l : Le K vw vw1) : ∀ {x : List VV} {v : List V}, RelVs w K G vw x v → RelVs w K G vw1 x v
  | [], _, h => h
  | x :: xs, _, h => by
    obtain ⟨v, r, e, h1, h2⟩ := h
    exact ⟨v, r, e, l.v h1, Le.vs l h2⟩
end
end Ev
end S_Ev0
section S_Ev1
namespace Ev
open PySem PySem.Spec PyProof.Rows L2
section
variable {w : World} {K : PySem.W.Frag} {G : Nat → Addr} {vw vw1 vw2 : Vw}
theorem Lk.eq {H H' : Hp} {a : Addr} {u : HO} {lk : Bool} (e : H' a = H a) (h : Lk H a u lk) : Lk H' a u lk := by
  cases lk with
  | true => obtain ⟨o, h⟩ := h; exact ⟨o, e.trans h⟩
  | false => exact e.trans h
theorem Lk.some {H : Hp} {a : Addr} {u : HO} {lk : Bool} (h : Lk H a u lk) : H a ≠ none := by
  cases lk with
  | true => obtain ⟨o, h⟩ := h; rw [h]; exact fun z => nomatch z
  | false => rw [show H a = _ from h]; exact fun z => nomatch z
theorem OkOb.mono {a : Addr} {o : Ob} (l : Le K vw vw1) (e : vw1.H a = vw.H a) (h : OkOb w K G vw a o) : OkOb w K G vw1 a o := by
  cases o with
  | lst lk xs =>
    obtain ⟨vs, h1, h2, h3⟩ := h
    exact ⟨vs, by rw [e]; exact h1, h2, l.ps h3⟩
  | dct nk lk ks us =>
    cases nk with
    | true =>
      obtain ⟨xs, h1, h2, h3, h4, h5⟩ := h
      exact ⟨xs, h1.eq e, h2, h3, l.ps h4, l.ps h5⟩
    | false =>
      obtain ⟨kvs, h1, h2, h3⟩ := h
      exact ⟨kvs, h1.eq e, h2, l.ps h3⟩
  | ins c fs us =>
    obtain ⟨dx, vs, h1, h2, h3⟩ := h
    exact ⟨dx, vs, by rw [e]; exact h1, h2, l.vs h3⟩
  | lkl xs =>
    obtain ⟨vs, h1, h2, h3⟩ := h
    exact ⟨vs, by rw [e]; exact h1, h2, l.ps h3⟩
theorem OkOb.some {a : Addr} {o : Ob} (h : OkOb w K G vw a o) : vw.H a ≠ none := by
  cases o with
  | lst lk xs =>
    obtain ⟨vs, h1, _⟩ := h
    rw [h1]; exact fun z => nomatch z
  | dct nk lk ks us =>
    cases nk with
    | true =>
      obtain ⟨xs, h1, _⟩ := h
      exact h1.some
    | false =>
      obtain ⟨xs, h1, _⟩ := h
      exact h1.some
  | ins c fs us =>
    obtain ⟨dx, vs, h1, _⟩ := h
    rw [h1]; exact fun z => nomatch z
  | lkl xs =>
    obtain ⟨vs, ⟨o, h1⟩, _⟩ := h
    rw [h1]; exact fun z => nomatch z
theorem OkOb.notb {a : Addr} {o : Ob} (h : OkOb w K G vw a o) : ∀ ps, vw.H a ≠ Option.some (HO.tbl ps) := by
  have lk : ∀ {u : HO} {l : Bool}, Lk vw.H a u l → (∀ ps, u ≠ HO.tbl ps) → ∀ ps, vw.H a ≠ Option.some (HO.tbl ps) := fun {u l} h n ps e => by
    cases l with
    | true => obtain ⟨o, h⟩ := h; rw [h] at e; cases e
    | false => rw [show vw.H a = _ from h] at e; exact n ps (Option.some.inj e)
  cases o with
  | lst l xs =>
    obtain ⟨vs, h1, _⟩ := h
    intro ps e
    rw [h1] at e
    cases e
  | dct nk l ks us =>
    cases nk with
    | true =>
      obtain ⟨xs, h1, _⟩ := h
      exact lk h1 fun _ z => nomatch z
    | false =>
      obtain ⟨xs, h1, _⟩ := h
      exact lk h1 fun _ z => nomatch z
  | ins c fs us =>
    obtain ⟨dx, vs, h1, _⟩ := h
    intro ps e
    rw [h1] at e
    cases e
  | lkl xs =>
    obtain ⟨vs, ⟨o, h1⟩, _⟩ := h
    intro ps e
    rw [h1] at e
    cases e
theorem Rd.ne_none {H : Hp} {a p : Addr} {u : HO} (h : Rd H a u) (n : H p = none) : a ≠ p := by
  rintro rfl
  rcases h with h | ⟨o, h⟩ <;> · rw [n] at h; cases h
theorem Rd.upd {H : Hp} {a p : Addr} {u o : HO} (h : Rd H a u) (ne : a ≠ p) : Rd (upd H p o) a u := by
  rcases h with h | ⟨ob, h⟩
  · exact .inl (by rw [upd_ne ne]; exact h)
  · exact .inr ⟨ob, by rw [upd_ne ne]; exact h⟩
theorem SqT.upd_new {H : Hp} {a p : Addr} {vs : List V} {o : HO} (h : SqT K H a vs) (n : H p = none) : SqT K (upd H p o) a vs := by
  rcases h with h | h
  · exact .inl (Rd.upd h (Rd.ne_none h n))
  · exact .inr h
theorem Tabl.new {G : Nat → Addr} {H : Hp} {Z Z' F : Addr → Prop} {p : Addr} {o : HO} (t : Tabl G H Z F) (n : H p = none) (hz : ∀ a, Z a → Z' a) (z1 : ∀ a, Z' a → Z a ∨ a = p) : Tabl G (upd H p o) Z' F :=
  t.move hz (fun a z => (z1 a z).imp id fun e ps q => by rw [e, n] at q; cases q) (fun _ f => .inl f) (fun P ps e => by rw [upd_ne (ne_of_none e n)]; exact e) fun a ob u _ e => by rw [upd_ne (ne_of_none e n)]; exact e
def isTup : HO → Bool
  | .tup _ => true
  | .frz _ _ => true
  | .tbl _ => true
  | _ => false
theorem Tabl.put {G : Nat → Addr} {H : Hp} {Z Z' F : Addr → Prop} {p : Addr} {o u : HO} (t : Tabl G H Z F) (hu : H p = some u) (nt : isTup u = false) (hz : ∀ a, Z a → Z' a) (z1 : ∀ a, Z' a → Z a ∨ a = p) : Tabl G (upd H p o) Z' F :=
  t.move hz (fun a z => (z1 a z).imp id fun e ps q => by rw [e, hu] at q; cases q; cases nt) (fun _ f => .inl f) (fun P ps e => by rw [upd_ne (fun q => by rw [q, hu] at e; cases e; cases nt)]; exact e) fun a ob v _ e => by rw [upd_ne (fun q => by rw [q, hu] at e; cases e; cases nt)]; exact e
/-- a new object: H grows, Z may take it -/
def Vw.grow (vw : Vw) (p : Addr) (o : HO) (zz : Prop) : Vw := { vw with H := upd vw.H p o, Z := fun a => vw.Z a ∨ (a = p ∧ zz) }
theorem Le.grow {p : Addr} {o : HO} {zz : Prop} (ok : VOk w K G vw) (n : vw.H p = none) : Le K vw (vw.grow p o zz) where
  z := fun _ h => .inl h
  zr := fun a u _ h => Rd.upd h (Rd.ne_none h n)
  ze := fun a o' _ _ h => by show upd vw.H p o a = _; rw [upd_ne (ne_of_none h n)]; exact h
  f := rfl
  fr := fun a h => by show upd vw.H p o a = _; rw [upd_ne (fun e => ok.fn a h (by rw [e]; exact n))]
  tu := fun a vs h => SqT.upd_new h n
  al := fun _ _ => rfl
  len := Nat.le_refl _
  fz := fun a ob u h => by show upd vw.H p o a = _; rw [upd_ne (ne_of_none h n)]; exact h
theorem VOk.grow {p : Addr} {o : HO} {zz : Prop} (ok : VOk w K G vw) (n : vw.H p = none) : VOk w K G (vw.grow p o zz) := by
  have ne : ∀ m ob, vw.st[m]? = some (some ob) → vw.al m ≠ p := fun m ob e z => (ok.ob m ob e).some (by rw [z]; exact n)
  refine ⟨fun a h1 h2 => ?_, fun a h => ?_, fun a h => ?_, fun m ob e => ?_, fun m ob e => ?_, ok.inj, ok.tab.new n (fun _ h => .inl h) fun _ z => z.imp id (·.1)⟩
  · rcases h1 with h1 | ⟨rfl, _⟩
    · exact ok.zf a h1 h2
    · exact ok.fn _ h2 n
  · show upd vw.H p o a ≠ none
    rw [upd_ne (fun e => ok.fn a h (by rw [e]; exact n))]
    exact ok.fn a h
  · show upd vw.H p o a ≠ none
    by_cases e : a = p
    · subst e; rw [upd_same]; exact fun z => nomatch z
    · rw [upd_ne e]
      exact h.elim (ok.zn a) fun h => absurd h.1 e
  · exact (ok.ob m ob e).mono (Le.grow ok n) (show upd vw.H p o (vw.al m) = vw.H (vw.al m) from upd_ne (ne m ob e))
  · refine ⟨fun z => ?_, (ok.nz m ob e).2⟩
    rcases z with z | ⟨z, _⟩
    · exact (ok.nz m ob e).1 z
    · exact ne m ob e z
/-- a new object of the store -/
def Vw.alloc (vw : Vw) (p : Addr) (o : HO) (ob : Ob) : Vw := { vw with H := upd vw.H p o, al := fun n => if n = vw.st.length then p else vw.al n, st := vw.st ++ [some ob] }
theorem Le.alloc {p : Addr} {o : HO} {ob : Ob} (ok : VOk w K G vw) (n : vw.H p = none) : Le K vw (vw.alloc p o ob) where
  z := fun _ h => h
  zr := fun a u _ h => Rd.upd h (Rd.ne_none h n)
  ze := fun a o' _ _ h => by show upd vw.H p o a = _; rw [upd_ne (ne_of_none h n)]; exact h
  f := rfl
  fr := fun a h => by show upd vw.H p o a = _; rw [upd_ne (fun e => ok.fn a h (by rw [e]; exact n))]
  tu := fun a vs h => SqT.upd_new h n
  al := fun m h => by show (if m = vw.st.length then p else vw.al m) = _; rw [if_neg (Nat.ne_of_lt h)]
  len := by show _ ≤ (vw.st ++ [some ob]).length; simp
  fz := fun a ob u h => by show upd vw.H p o a = _; rw [upd_ne (ne_of_none h n)]; exact h
theorem VOk.alloc {p : Addr} {o : HO} {ob : Ob} (ok : VOk w K G vw) (n : vw.H p = none) (h : OkOb w K G (vw.alloc p o ob) p ob) : VOk w K G (vw.alloc p o ob) := by
  have ne : ∀ m b, vw.st[m]? = some (some b) → vw.al m ≠ p := fun m b e z => (ok.ob m b e).some (by rw [z]; exact n)
  have cs : ∀ m b, (vw.st ++ [some ob])[m]? = some (some b) → (m < vw.st.length ∧ vw.st[m]? = some (some b) ∧ (vw.alloc p o ob).al m = vw.al m) ∨ (m = vw.st.length ∧ b = ob ∧ (vw.alloc p o ob).al m = p) := fun m b e => by
    by_cases hm : m < vw.st.length
    · rw [List.getElem?_append_left hm] at e
      exact .inl ⟨hm, e, if_neg (Nat.ne_of_lt hm)⟩
    · rw [List.getElem?_append_right (by omega)] at e
      by_cases h2 : m = vw.st.length
      · subst h2
        simp at e
        exact .inr ⟨rfl, e.symm, if_pos rfl⟩
      · rw [List.getElem?_eq_none (by simp; omega)] at e
        cases e
  refine ⟨ok.zf, fun a h => ?_, fun a h => ?_, fun m b e => ?_, fun m b e => ?_, fun m m' b b' e e' q => ?_, ok.tab.new n (fun _ h => h) fun _ z => .inl z⟩
  · show upd vw.H p o a ≠ none
    rw [upd_ne (fun e => ok.fn a h (by rw [e]; exact n))]
    exact ok.fn a h
  · show upd vw.H p o a ≠ none
    rw [upd_ne (fun e => ok.zn a h (by rw [e]; exact n))]
    exact ok.zn a h
  · rcases cs m b e with ⟨_, e1, e2⟩ | ⟨_, rfl, e2⟩
    · rw [e2]
      exact (ok.ob m b e1).mono (Le.alloc ok n) (by show upd vw.H p o _ = _; rw [upd_ne (ne m b e1)])
    · rw [e2]; exact h
  · rcases cs m b e with ⟨_, e1, e2⟩ | ⟨_, rfl, e2⟩
    · rw [e2]; exact ok.nz m b e1
    · rw [e2]; exact ⟨fun z => ok.zn p z n, fun f => ok.fn p f n⟩
  · rcases cs m b e with ⟨l1, e1, e2⟩ | ⟨l1, rfl, e2⟩ <;> rcases cs m' b' e' with ⟨l3, e3, e4⟩ | ⟨l3, rfl, e4⟩
    · rw [e2, e4] at q; exact ok.inj m m' b b' e1 e3 q
    · rw [e2, e4] at q; exact absurd q (ne m b e1)
    · rw [e2, e4] at q; exact absurd q.symm (ne m' b' e3)
    · rw [l1, l3]
/-- an object of the store is changed -/
def Vw.write (vw : Vw) (n : Nat) (o : HO) (ob : Ob) : Vw := { vw with H := upd vw.H (vw.al n) o, st := vw.st.set n (some ob) }
theorem Le.write {n : Nat} {o u : HO} {ob ob' : Ob} (ok : VOk w K G vw) (e : vw.st[n]? = some (some ob')) (hu : vw.H (vw.al n) = some u) (nt : isTup u = false) : Le K vw (vw.write n o ob) where
  z := fun _ h => h
  zr := fun a u' h r => Rd.upd r (fun q => (ok.nz n ob' e).1 (by rw [← q]; exact h))
  ze := fun a o' h _ r => by show upd vw.H (vw.al n) o a = _; rw [upd_ne (fun q => (ok.nz n ob' e).1 (by rw [← q]; exact h))]; exact r
  f := rfl
  fr := fun a h => by show upd vw.H (vw.al n) o a = _; rw [upd_ne (fun q => (ok.nz n ob' e).2 (by rw [← q]; exact h))]
  tu := fun a vs h => by
    rcases h with h | h
    · refine .inl (Rd.upd h fun q => ?_)
      rw [q] at h
      rcases h with h | ⟨o', h⟩ <;> rw [hu] at h <;> cases h <;> cases nt
    · exact .inr h
  al := fun _ _ => rfl
  len := by show _ ≤ (vw.st.set n (some ob)).length; simp
  fz := fun a x u' h => by
    show upd vw.H (vw.al n) o a = _
    rw [upd_ne (fun q => by rw [q, hu] at h; cases h; cases nt)]
    exact h
theorem VOk.write {n : Nat} {o u : HO} {ob ob' : Ob} (ok : VOk w K G vw) (e : vw.st[n]? = some (some ob')) (hu : vw.H (vw.al n) = some u) (nt : isTup u = false) (h : OkOb w K G (vw.write n o ob) (vw.al n) ob) : VOk w K G (vw.write n o ob) := by
  have hn : n < vw.st.length := (List.getElem?_eq_some_iff.mp e).1
  have cs : ∀ m b, (vw.st.set n (some ob))[m]? = some (some b) → (m = n ∧ b = ob) ∨ (m ≠ n ∧ vw.st[m]? = some (some b)) := fun m b q => by
    by_cases hm : m = n
    · subst hm
      rw [List.getElem?_set_self hn] at q
      cases q; exact .inl ⟨rfl, rfl⟩
    · rw [List.getElem?_set_ne (Ne.symm hm)] at q
      exact .inr ⟨hm, q⟩
  have live : ∀ m b, (vw.st.set n (some ob))[m]? = some (some b) → ∃ b', vw.st[m]? = some (some b') := fun m b q => by
    rcases cs m b q with ⟨rfl, _⟩ | ⟨_, q⟩
    · exact ⟨_, e⟩
    · exact ⟨_, q⟩
  refine ⟨ok.zf, fun a hf => ?_, fun a hf => ?_, fun m b q => ?_, fun m b q => ?_, fun m m' b b' q q' z => ?_, ok.tab.put hu nt (fun _ h => h) fun _ z => .inl z⟩
  · show upd vw.H (vw.al n) o a ≠ none
    rw [upd_ne (fun q => (ok.nz n ob' e).2 (by rw [← q]; exact hf))]
    exact ok.fn a hf
  · show upd vw.H (vw.al n) o a ≠ none
    rw [upd_ne (fun q => (ok.nz n ob' e).1 (by rw [← q]; exact hf))]
    exact ok.zn a hf
  · rcases cs m b q with ⟨rfl, rfl⟩ | ⟨hm, q⟩
    · exact h
    · have ne : vw.al m ≠ vw.al n := fun z => hm (ok.inj m n b ob' q e z)
      exact (ok.ob m b q).mono (Le.write ok e hu nt) (show upd vw.H (vw.al n) o (vw.al m) = vw.H (vw.al m) from upd_ne ne)
  · obtain ⟨b', q'⟩ := live m b q
    exact ok.nz m b' q'
  · obtain ⟨c, q1⟩ := live m b q
    obtain ⟨c', q2⟩ := live m' b' q'
    exact ok.inj m m' c c' q1 q2 z
end
/-! ### results, readings -/
inductive Res (α : Type) where
  | ok (x : α) (st : Sto) | ex (c : Nat) (us : List PV) (st : Sto) | no
inductive SRes where
  | nx (e : EE) (st : Sto) | rt (x : VV) (st : Sto) | bk (e : EE) (st : Sto) | ct (e : EE) (st : Sto) | ex (c : Nat) (us : List PV) (e : EE) (st : Sto) | no
def Res.bind {α β : Type} (r : Res α) (f : α → Sto → Res β) : Res β := match r with
  | .ok x st => f x st
  | .ex c us st => .ex c us st
  | .no => .no
abbrev RX := EE → Sto → Res VV
abbrev RT := EE → Sto → Res Bool
abbrev RA := EE → Sto → Res (List VV)
abbrev RS := EE → Sto → SRes
/-- what is wanted of an exception: the view, the names, its class, its fields -/
abbrev WE := Vw → EE → Nat → List PV → Prop
section
variable (w : World) (K : PySem.W.Frag) (G : Nat → Addr)
def GQ {α : Type} (vw : Vw) (E : Vw → Nat → List PV → Prop) (r : Res α) (Q : Vw → α → Prop) : Prop := match r with
  | .ok x st => ∀ vw', Le K vw vw' → VOk w K G vw' → vw'.st = st → Q vw' x
  | .ex c us st => ∀ vw', Le K vw vw' → VOk w K G vw' → vw'.st = st → E vw' c us
  | .no => False
def RepE (vw : Vw) (env : EE) (σ : SSt) : Prop := env.length = σ.length ∧ ∀ (i : Nat) (x : VV), env[i]? = some (some x) → ∃ v : V, σ[i]? = some (some v) ∧ RelVV w K G vw x v
def tE (E : WE) (r : RX) : TE := fun σ H Q => ∃ vw env, vw.H = H ∧ VOk w K G vw ∧ RepE w K G vw env σ ∧
  GQ w K G vw (fun vw' => E vw' env) (r env vw.st) fun vw' x => ∀ v, RelVV w K G vw' x v → Q v vw'.H
def tT (E : WE) (r : RT) : TT := fun σ H Q => ∃ vw env, vw.H = H ∧ VOk w K G vw ∧ RepE w K G vw env σ ∧
  GQ w K G vw (fun vw' => E vw' env) (r env vw.st) fun vw' x => Q x vw'.H
def tA (E : WE) (r : RA) : TA := fun σ H Q => ∃ vw env, vw.H = H ∧ VOk w K G vw ∧ RepE w K G vw env σ ∧
  GQ w K G vw (fun vw' => E vw' env) (r env vw.st) fun vw' x => ∀ vs, RelVs w K G vw' x vs → Q vs vw'.H
def GS (vw : Vw) (E : WE) (r : SRes) (D : Ends) : Prop := match r with
  | .nx e st => ∀ vw' σ, Le K vw vw' → VOk w K G vw' → vw'.st = st → RepE w K G vw' e σ → D.nx σ vw'.H
  | .rt x st => ∀ vw' v, Le K vw vw' → VOk w K G vw' → vw'.st = st → RelVV w K G vw' x v → D.rt v vw'.H
  | .bk e st => ∀ vw' σ, Le K vw vw' → VOk w K G vw' → vw'.st = st → RepE w K G vw' e σ → D.bk σ vw'.H
  | .ct e st => ∀ vw' σ, Le K vw vw' → VOk w K G vw' → vw'.st = st → RepE w K G vw' e σ → D.ct σ vw'.H
  | .ex c us e st => ∀ vw', Le K vw vw' → VOk w K G vw' → vw'.st = st → E vw' e c us
  | .no => False
def tS (E : WE) (r : RS) : TS := fun D σ H => ∃ vw env, vw.H = H ∧ VOk w K G vw ∧ RepE w K G vw env σ ∧ GS w K G vw E (r env vw.st) D
end
section
variable {w : World} {K : PySem.W.Frag} {G : Nat → Addr} {vw vw1 : Vw} {α β : Type} {E E' : Vw → Nat → List PV → Prop}
theorem GQ.back {r : Res α} {Q : Vw → α → Prop} (l : Le K vw vw1) (h : GQ w K G vw E r Q) : GQ w K G vw1 E r Q := by
  cases r with
  | ok x st => exact fun vw' l' ok e => h vw' (l.trans l') ok e
  | ex c us st => exact fun vw' l' ok e => h vw' (l.trans l') ok e
  | no => exact h
theorem GQ.imp {r : Res α} {Q Q' : Vw → α → Prop} (h : GQ w K G vw E r Q) (f : ∀ vw' x, Le K vw vw' → VOk w K G vw' → Q vw' x → Q' vw' x) : GQ w K G vw E r Q' := by
  cases r with
  | ok x st => exact fun vw' l' ok e => f vw' x l' ok (h vw' l' ok e)
  | ex c us st => exact h
  | no => exact h
theorem GQ.bind {r : Res α} {k : α → Sto → Res β} {Q : Vw → β → Prop} (h : GQ w K G vw E (r.bind k) Q) : GQ w K G vw E r fun vw1 x => GQ w K G vw1 E (k x vw1.st) Q := by
  cases r with
  | ok x st =>
    intro vw' l ok e
    rw [e]
    exact GQ.back l h
  | ex c us st => exact h
  | no => exact h
theorem RepE.mono {env : EE} {σ : SSt} (l : Le K vw vw1) (h : RepE w K G vw env σ) : RepE w K G vw1 env σ := ⟨h.1, fun i x e => let ⟨v, a, b⟩ := h.2 i x e; ⟨v, a, l.v b⟩⟩
theorem GS.back {E : WE} {r : SRes} {D : Ends} (l : Le K vw vw1) (h : GS w K G vw E r D) : GS w K G vw1 E r D := by
  cases r with
  | nx e st => exact fun vw' σ l' ok q => h vw' σ (l.trans l') ok q
  | rt x st => exact fun vw' v l' ok q => h vw' v (l.trans l') ok q
  | bk e st => exact fun vw' σ l' ok q => h vw' σ (l.trans l') ok q
  | ct e st => exact fun vw' σ l' ok q => h vw' σ (l.trans l') ok q
  | ex c us e st => exact fun vw' l' ok q => h vw' (l.trans l') ok q
  | no => exact h
end
section
variable {X : Cx}
theorem _root_.L2.PE.weak {e : Expr} {t t' : TE} (h : PE X e t) (f : ∀ σ H Q, t' σ H Q → t σ H Q) : PE X e t' := ⟨fun pins s σ H Q I q => h.run pins s σ H Q I (f σ H Q q)⟩
theorem _root_.L2.PT.weak {e : Expr} {t t' : TT} (h : PT X e t) (f : ∀ σ H Q, t' σ H Q → t σ H Q) : PT X e t' := ⟨fun pins s σ H Q I q => h.run pins s σ H Q I (f σ H Q q)⟩
theorem _root_.L2.PW.weak {e : Expr} {t t' : TT} (h : PW X e t) (f : ∀ σ H Q, t' σ H Q → t σ H Q) : PW X e t' := ⟨fun wh pins s σ H Q I q => h.run wh pins s σ H Q I (f σ H Q q)⟩
theorem _root_.L2.PA.weak {e : List Expr} {t t' : TA} (h : PA X e t) (f : ∀ σ H Q, t' σ H Q → t σ H Q) : PA X e t' := ⟨fun pos pins s σ H Q I q => h.run pos pins s σ H Q I (f σ H Q q)⟩
theorem _root_.L2.PS.weak {e : Stmt} {t t' : TS} (h : PS X e t) (f : ∀ D σ H, t' D σ H → t D σ H) : PS X e t' := ⟨fun pins s σ H D I q => h.run pins s σ H D I (f D σ H q)⟩
theorem _root_.L2.PSs.weak {e : List Stmt} {t t' : TS} (h : PSs X e t) (f : ∀ D σ H, t' D σ H → t D σ H) : PSs X e t' := ⟨fun pins s σ H D I q => h.run pins s σ H D I (f D σ H q)⟩
end
end Ev
end S_Ev1
section S_Ev2
namespace Ev
open PySem PySem.Spec PyProof.Rows L2
/-! ### new objects, as the rules give them -/
section
variable {w : World} {K : PySem.W.Frag} {G : Nat → Addr} {vw vw1 vw2 : Vw}
theorem RelPs.len {H : Hp} {Z : Addr → Prop} : ∀ {xs : List PV} {vs : List V}, RelPs w K G H Z xs vs → xs.length = vs.length
  | [], _, h => by rw [RelPs] at h; rw [h]; rfl
  | x :: xs, _, h => by
    rw [RelPs] at h
    obtain ⟨v, r, rfl, _, h2⟩ := h
    rw [List.length_cons, List.length_cons, RelPs.len h2]
theorem RelPs.app {H : Hp} {Z : Addr → Prop} : ∀ {xs ys : List PV} {vs us : List V}, RelPs w K G H Z xs vs → RelPs w K G H Z ys us → RelPs w K G H Z (xs ++ ys) (vs ++ us)
  | [], _, _, _, h, h' => by rw [RelPs] at h; rw [h]; exact h'
  | x :: xs, ys, _, us, h, h' => by
    rw [RelPs] at h
    obtain ⟨v, r, rfl, h1, h2⟩ := h
    rw [List.cons_append, List.cons_append, RelPs]
    exact ⟨v, _, rfl, h1, RelPs.app h2 h'⟩
theorem RelPs.nil {H : Hp} {Z : Addr → Prop} : RelPs w K G H Z [] [] := by rw [RelPs]
theorem RelPs.cons {H : Hp} {Z : Addr → Prop} {x : PV} {v : V} {xs : List PV} {vs : List V} (h : RelP w K G H Z x v) (h' : RelPs w K G H Z xs vs) : RelPs w K G H Z (x :: xs) (v :: vs) := by
  rw [RelPs]; exact ⟨v, vs, rfl, h, h'⟩
theorem RelPs.get {H : Hp} {Z : Addr → Prop} : ∀ {xs : List PV} {vs : List V} {i : Nat} {x : PV}, RelPs w K G H Z xs vs → xs[i]? = some x → ∃ v, vs[i]? = some v ∧ RelP w K G H Z x v
  | [], _, i, x, _, e => by simp at e
  | y :: xs, _, 0, x, h, e => by
    rw [RelPs] at h
    obtain ⟨v, r, rfl, h1, h2⟩ := h
    simp at e; subst e
    exact ⟨v, rfl, h1⟩
  | y :: xs, _, i + 1, x, h, e => by
    rw [RelPs] at h
    obtain ⟨v, r, rfl, h1, h2⟩ := h
    obtain ⟨u, e1, e2⟩ := RelPs.get (i := i) h2 (by simpa using e)
    exact ⟨u, by simpa using e1, e2⟩
theorem RelPs.take {H : Hp} {Z : Addr → Prop} : ∀ {xs : List PV} {vs : List V} (n : Nat), RelPs w K G H Z xs vs → RelPs w K G H Z (xs.take n) (vs.take n)
  | _, _, 0, _ => by simp only [List.take_zero]; exact RelPs.nil
  | [], _, n + 1, h => by rw [RelPs] at h; rw [h]; simp only [List.take_nil]; exact RelPs.nil
  | x :: xs, _, n + 1, h => by
    rw [RelPs] at h
    obtain ⟨v, r, rfl, h1, h2⟩ := h
    exact RelPs.cons h1 (RelPs.take n h2)
theorem RelPs.drop {H : Hp} {Z : Addr → Prop} : ∀ {xs : List PV} {vs : List V} (n : Nat), RelPs w K G H Z xs vs → RelPs w K G H Z (xs.drop n) (vs.drop n)
  | _, _, 0, h => h
  | [], _, n + 1, h => by rw [RelPs] at h; rw [h]; simp only [List.drop_nil]; exact RelPs.nil
  | x :: xs, _, n + 1, h => by
    rw [RelPs] at h
    obtain ⟨v, r, rfl, h1, h2⟩ := h
    exact RelPs.drop n h2
theorem RelPs.rep {H : Hp} {Z : Addr → Prop} {xs : List PV} {vs : List V} (h : RelPs w K G H Z xs vs) : ∀ n : Nat, RelPs w K G H Z (List.replicate n xs).flatten (List.replicate n vs).flatten
  | 0 => RelPs.nil
  | n + 1 => by
    rw [List.replicate_succ, List.replicate_succ, List.flatten_cons, List.flatten_cons]
    exact RelPs.app h (RelPs.rep h n)
theorem RelPs.set {H : Hp} {Z : Addr → Prop} {x : PV} {v : V} (h : RelP w K G H Z x v) : ∀ {xs : List PV} {vs : List V} (n : Nat), RelPs w K G H Z xs vs → RelPs w K G H Z (xs.set n x) (vs.set n v)
  | [], _, _, q => by rw [RelPs] at q; rw [q]; exact RelPs.nil
  | y :: xs, _, 0, q => by
    rw [RelPs] at q
    obtain ⟨u, r, rfl, h1, h2⟩ := q
    exact RelPs.cons h h2
  | y :: xs, _, n + 1, q => by
    rw [RelPs] at q
    obtain ⟨u, r, rfl, h1, h2⟩ := q
    exact RelPs.cons h1 (RelPs.set h n h2)
/-- a new tuple -/
theorem mkTup {xs : List PV} {vs : List V} {p : Addr} (ok : VOk w K G vw) (n : vw.H p = none) (l : vs.length ≤ sizeLine) (r : RelPs w K G vw.H vw.Z xs vs) :
    ∃ vw', vw'.H = upd vw.H p (.tup vs) ∧ Le K vw vw' ∧ VOk w K G vw' ∧ vw'.st = vw.st ∧ RelP w K G vw'.H vw'.Z (.tup xs) (.ref p) := by
  refine ⟨vw.grow p (.tup vs) False, rfl, Le.grow ok n, VOk.grow ok n, rfl, ?_⟩
  rw [RelP]
  exact ⟨p, vs, rfl, .inl (.inl upd_same), l, (Le.grow ok n).ps r⟩
theorem mkLst {xs : List PV} {vs : List V} {p : Addr} (ok : VOk w K G vw) (n : vw.H p = none) (l : vs.length ≤ sizeLine) (r : RelPs w K G vw.H vw.Z xs vs) :
    ∃ vw', vw'.H = upd vw.H p (.lst vs) ∧ Le K vw vw' ∧ VOk w K G vw' ∧ vw'.st = vw.st ∧ RelP w K G vw'.H vw'.Z (.lst xs) (.ref p) := by
  refine ⟨vw.grow p (.lst vs) True, rfl, Le.grow ok n, VOk.grow ok n, rfl, ?_⟩
  rw [RelP]
  exact ⟨p, vs, rfl, .inr ⟨rfl, trivial⟩, upd_same, l, (Le.grow ok n).ps r⟩
end
/-! ### names, constants -/
def rVar (i : Nat) : RX := fun env st => match env[i]? with
  | some (some x) => .ok x st
  | _ => .no
def rC (x : PV) : RX := fun _ st => .ok (.p x) st
section
variable {X : Cx} {G : Nat → Addr} {E : WE} {pos : Pos}
abbrev PX (X : Cx) (G : Nat → Addr) (E : WE) (e : Expr) (r : RX) : Prop := PE X e (tE X.w X.K G E r)
abbrev PXT (X : Cx) (G : Nat → Addr) (E : WE) (e : Expr) (r : RT) : Prop := PT X e (tT X.w X.K G E r)
abbrev PXA (X : Cx) (G : Nat → Addr) (E : WE) (es : List Expr) (r : RA) : Prop := PA X es (tA X.w X.K G E r)
abbrev PXS (X : Cx) (G : Nat → Addr) (E : WE) (s : Stmt) (r : RS) : Prop := PS X s (tS X.w X.K G E r)
abbrev PXSs (X : Cx) (G : Nat → Addr) (E : WE) (s : List Stmt) (r : RS) : Prop := PSs X s (tS X.w X.K G E r)
theorem px_var {i : Nat} {x : Str} (hN : X.N[i]? = some x) (hv : Vis X.env.scope x) (hd : (x == ("__debug__" : Str)) = false := by decide) (hcd : (x == ("__classdict__" : Str)) = false := by decide) : PX X G E (.Name x pos) (rVar i) :=
  (pe_var hN hv hd hcd).weak fun σ H Q ⟨vw, env, eH, ok, re, q⟩ => by
    subst eH
    unfold rVar at q
    split at q
    · rename_i x e
      obtain ⟨v, ev, rv⟩ := re.2 i x e
      exact ⟨v, ev, q vw .rfl' ok rfl v rv⟩
    · exact q.elim
theorem px_c {e : Expr} {v : V} {z : PV} (h : PE X e (tC v)) (r : ∀ H Z, RelP X.w X.K G H Z z v) : PX X G E e (rC z) := h.weak fun σ H Q ⟨vw, env, eH, ok, re, q⟩ => by
  subst eH
  exact q vw .rfl' ok rfl v (r _ _)
theorem px_int {i j} : PX X G E (.Constant (.int i) j pos) (rC (.int i)) := px_c pe_int fun _ _ => by rw [RelP]
theorem px_bl {b j} : PX X G E (.Constant (.bool b) j pos) (rC (.bl b)) := px_c pe_bl fun _ _ => by rw [RelP]
theorem px_non {j} : PX X G E (.Constant .none j pos) (rC .non) := px_c pe_non fun _ _ => by rw [RelP]
theorem px_str {x j} : PX X G E (.Constant (.str x) j pos) (rC (.str x)) := px_c pe_str fun _ _ => by rw [RelP]
theorem px_glob {x : Str} {v : V} {u : Value} {z : PV} (hg : Gl X x) (hm : X.mg x = some u) (r : RelV v u) (rz : ∀ H Z, RelP X.w X.K G H Z z v) (hd : (x == ("__debug__" : Str)) = false := by decide) : PX X G E (.Name x pos) (rC z) := px_c (pe_glob hg hm r hd) rz
end
/-! ### operations by values -/
/-- a result that needs no store -/
def q2 (w : World) (K : PySem.W.Frag) (G : Nat → Addr) (p : PV → PV → Option PV) : R2 := fun x y H Q => ∃ vw a b z, vw.H = H ∧ VOk w K G vw ∧ RelP w K G vw.H vw.Z a x ∧ RelP w K G vw.H vw.Z b y ∧ p a b = some z ∧
  ∀ vw' v, Le K vw vw' → VOk w K G vw' → vw'.st = vw.st → RelP w K G vw'.H vw'.Z z v → Q v vw'.H
def r2 (p : PV → PV → Option PV) (ra rb : RX) : RX := fun env st => (ra env st).bind fun x st1 => (rb env st1).bind fun y st2 => match x, y with
  | .p a, .p b => (match p a b with
    | some z => .ok (.p z) st2
    | none => .no)
  | _, _ => .no
section
variable {X : Cx} {G : Nat → Addr} {E : WE} {pos : Pos} {a b c : Expr} {ra rb rc : RX}
theorem _root_.L2.OpR.weak {f : Value → Value → Sem Value} {r r' : R2} (h : OpR X f r) (g : ∀ x y H Q, r' x y H Q → r x y H Q) : OpR X f r' := fun pins s σ H x y v u Q I rx ry q => h pins s σ H x y v u Q I rx ry (g x y H Q q)
theorem bin_read {w : World} {K : PySem.W.Frag} {p : PV → PV → Option PV} {σ : SSt} {H : Hp} {Q : VK} (h : tE w K G E (r2 p ra rb) σ H Q) : tE w K G E ra σ H fun x H1 => tE w K G E rb σ H1 fun y H2 => q2 w K G p x y H2 Q := by
  obtain ⟨vw, env, eH, ok, re, q⟩ := h
  refine ⟨vw, env, eH, ok, re, (GQ.bind q).imp fun vw1 x l1 ok1 q1 v1 r1 => ?_⟩
  refine ⟨vw1, env, rfl, ok1, re.mono l1, (GQ.bind q1).imp fun vw2 y l2 ok2 q2 v2 rv2 => ?_⟩
  cases x with
  | ref n => exact q2.elim
  | p x =>
    cases y with
    | ref n => exact q2.elim
    | p y =>
      dsimp only at q2
      split at q2
      · rename_i z ez
        exact ⟨vw2, x, y, z, rfl, ok2, l2.p r1, rv2, ez, fun vw' v l o e r => q2 vw' l o e v r⟩
      · exact q2.elim
theorem px_op {op : Operator} {p : PV → PV → Option PV} (ho : OpR X (binaryOp op) (q2 X.w X.K G p)) (ha : PX X G E a ra) (hb : PX X G E b rb) : PX X G E (.BinOp a op b pos) (r2 p ra rb) :=
  (pe_op ho ha hb).weak fun σ H Q h => bin_read h
theorem px_cmp {op : CmpOp} {p : PV → PV → Option PV} (ho : OpR X (compareOp op) (q2 X.w X.K G p)) (ha : PX X G E a ra) (hb : PX X G E b rb) (hm : behindInMarks op b = false) : PX X G E (.Compare a [op] [b] pos) (r2 p ra rb) :=
  (pe_cmpR ho ha hb hm).weak fun σ H Q h => bin_read h
/-! #### + - * % // ** -/
def pAdd : PV → PV → Option PV
  | .int i, .int j => some (.int (i + j))
  | .tup xs, .tup ys => if xs.length + ys.length ≤ sizeLine then some (.tup (xs ++ ys)) else none
  | .lst xs, .lst ys => if xs.length + ys.length ≤ sizeLine then some (.lst (xs ++ ys)) else none
  | .str x, .str y => if x.length + y.length ≤ sizeLine then some (.str (x ++ y)) else none
  | _, _ => none
theorem relInt {w : World} {K : PySem.W.Frag} {H : Hp} {Z : Addr → Prop} {i : Int} {v : V} : RelP w K G H Z (.int i) v ↔ v = .int i := by rw [RelP]
theorem relBl {w : World} {K : PySem.W.Frag} {H : Hp} {Z : Addr → Prop} {i : Bool} {v : V} : RelP w K G H Z (.bl i) v ↔ v = .bl i := by rw [RelP]
theorem relNon {w : World} {K : PySem.W.Frag} {H : Hp} {Z : Addr → Prop} {v : V} : RelP w K G H Z .non v ↔ v = .non := by rw [RelP]
theorem relStr {w : World} {K : PySem.W.Frag} {H : Hp} {Z : Addr → Prop} {i : Str} {v : V} : RelP w K G H Z (.str i) v ↔ v = .str i := by rw [RelP]
theorem relTup {w : World} {K : PySem.W.Frag} {H : Hp} {Z : Addr → Prop} {xs : List PV} {v : V} : RelP w K G H Z (.tup xs) v ↔ ∃ a vs, v = .ref a ∧ SqT K H a vs ∧ vs.length ≤ sizeLine ∧ RelPs w K G H Z xs vs := by rw [RelP]
theorem relLst {w : World} {K : PySem.W.Frag} {H : Hp} {Z : Addr → Prop} {xs : List PV} {v : V} : RelP w K G H Z (.lst xs) v ↔ ∃ a vs, v = .ref a ∧ Z a ∧ H a = some (.lst vs) ∧ vs.length ≤ sizeLine ∧ RelPs w K G H Z xs vs := by rw [RelP]
theorem relLsf {w : World} {K : PySem.W.Frag} {H : Hp} {Z : Addr → Prop} {xs : List PV} {v : V} : RelP w K G H Z (.lsf xs) v ↔ ∃ a vs, v = .ref a ∧ Sf K H Z a vs ∧ vs.length ≤ sizeLine ∧ RelPs w K G H Z xs vs := by rw [RelP]
theorem opx_add : OpR X (binaryOp .Add) (q2 X.w X.K G pAdd) := by
  refine OpR.weak (OpR.or op_add (OpR.or op_catA (OpR.or op_cat op_add_str))) fun x y H Q ⟨vw, a, b, z, eH, ok, ra, rb, e, q⟩ => ?_
  subst eH
  unfold pAdd at e
  split at e
  · cases e
    rw [relInt] at ra rb
    exact .inl ⟨_, _, ra, rb, q vw _ .rfl' ok rfl (relInt.mpr rfl)⟩
  · split at e
    · rename_i xs ys hl
      cases e
      obtain ⟨p, vs, rfl, hp, l1, r1⟩ := relTup.mp ra
      obtain ⟨p', us, rfl, hp', l2, r2⟩ := relTup.mp rb
      have hz : vs.length + us.length ≤ sizeLine := by rw [← r1.len, ← r2.len]; exact hl
      refine .inr (.inl ⟨p, p', vs, us, rfl, rfl, hp, hp', hz, fun h => ?_, fun h h' => ?_, fun h h' u hu => ?_⟩)
      · subst h
        have e0 : xs = [] := List.eq_nil_of_length_eq_zero r1.len
        subst e0
        exact q vw _ .rfl' ok rfl rb
      · subst h'
        have e0 : ys = [] := List.eq_nil_of_length_eq_zero r2.len
        subst e0
        rw [List.append_nil] at q
        exact q vw _ .rfl' ok rfl ra
      · obtain ⟨vw', eh, l, o, es, r⟩ := mkTup (vs := vs ++ us) ok hu (by rw [List.length_append]; exact hz) (RelPs.app r1 r2)
        rw [← eh]
        exact q vw' _ l o es r
    · cases e
  · split at e
    · rename_i xs ys hl
      cases e
      obtain ⟨p, vs, rfl, _, hp, l1, r1⟩ := relLst.mp ra
      obtain ⟨p', us, rfl, _, hp', l2, r2⟩ := relLst.mp rb
      have hz : vs.length + us.length ≤ sizeLine := by rw [← r1.len, ← r2.len]; exact hl
      refine .inr (.inr (.inl ⟨p, p', vs, us, rfl, rfl, hp, hp', hz, fun u hu => ?_⟩))
      obtain ⟨vw', eh, l, o, es, r⟩ := mkLst (vs := vs ++ us) ok hu (by rw [List.length_append]; exact hz) (RelPs.app r1 r2)
      rw [← eh]
      exact q vw' _ l o es r
    · cases e
  · split at e
    · rename_i hl
      cases e
      rw [relStr] at ra rb
      exact .inr (.inr (.inr ⟨_, _, ra, rb, hl, q vw _ .rfl' ok rfl (relStr.mpr rfl)⟩))
    · cases e
  · cases e
def pI (C : Int → Int → Bool) (g : Int → Int → PV) : PV → PV → Option PV
  | .int i, .int j => if C i j = true then some (g i j) else none
  | _, _ => none
theorem opx_i {f : Value → Value → Sem Value} {C : Int → Int → Prop} {C' : Int → Int → Bool} {g : Int → Int → V} {g' : Int → Int → PV} (h : OpR X f (rI C g)) (hc : ∀ i j, C' i j = true → C i j) (hg : ∀ i j H Z, RelP X.w X.K G H Z (g' i j) (g i j)) : OpR X f (q2 X.w X.K G (pI C' g')) := by
  refine OpR.weak h fun x y H Q ⟨vw, a, b, z, eH, ok, ra, rb, e, q⟩ => ?_
  subst eH
  unfold pI at e
  split at e
  · split at e
    · rename_i hl
      cases e
      rw [relInt] at ra rb
      exact ⟨_, _, ra, rb, hc _ _ hl, q vw _ .rfl' ok rfl (hg _ _ _ _)⟩
    · cases e
  · cases e
def pI0 (g : Int → Int → PV) : PV → PV → Option PV
  | .int i, .int j => some (g i j)
  | _, _ => none
theorem opx_i0 {f : Value → Value → Sem Value} {g : Int → Int → V} {g' : Int → Int → PV} (h : OpR X f (rI0 g)) (hg : ∀ i j H Z, RelP X.w X.K G H Z (g' i j) (g i j)) : OpR X f (q2 X.w X.K G (pI0 g')) := by
  refine OpR.weak h fun x y H Q ⟨vw, a, b, z, eH, ok, ra, rb, e, q⟩ => ?_
  subst eH
  unfold pI0 at e
  split at e
  · cases e
    rw [relInt] at ra rb
    exact ⟨_, _, ra, rb, q vw _ .rfl' ok rfl (hg _ _ _ _)⟩
  · cases e
abbrev pSub := pI0 fun i j => .int (i - j)
theorem opx_sub : OpR X (binaryOp .Sub) (q2 X.w X.K G pSub) := opx_i0 op_sub fun _ _ _ _ => relInt.mpr rfl
abbrev pMod := pI (fun _ j => decide (0 < j)) fun i j => .int (i % j)
theorem opx_mod : OpR X (binaryOp .Mod) (q2 X.w X.K G pMod) := opx_i op_mod (fun i j h => of_decide_eq_true h) fun _ _ _ _ => relInt.mpr rfl
abbrev pDiv := pI (fun _ j => decide (0 < j ∧ j < 1073741824)) fun i j => .int (i / j)
theorem opx_div : OpR X (binaryOp .FloorDiv) (q2 X.w X.K G pDiv) := opx_i op_fdiv (fun i j h => by simpa [CDiv] using h) fun _ _ _ _ => relInt.mpr rfl
abbrev pPow := pI (fun i j => decide (0 ≤ j ∧ j ≤ 1000000 ∧ i.natAbs < 2 ^ 64)) fun i j => .int (i ^ j.toNat)
theorem opx_pow : OpR X (binaryOp .Pow) (q2 X.w X.K G pPow) := opx_i op_pow (fun i j h => by simpa [CPow] using h) fun _ _ _ _ => relInt.mpr rfl
abbrev pLt := pI0 fun i j => .bl (decide (i < j))
theorem opx_lt : OpR X (compareOp .Lt) (q2 X.w X.K G pLt) := opx_i0 op_lt fun _ _ _ _ => relBl.mpr rfl
abbrev pLe := pI0 fun i j => .bl (decide (i ≤ j))
theorem opx_le : OpR X (compareOp .LtE) (q2 X.w X.K G pLe) := opx_i0 op_le fun _ _ _ _ => relBl.mpr rfl
abbrev pGt := pI0 fun i j => .bl (decide (j < i))
theorem opx_gt : OpR X (compareOp .Gt) (q2 X.w X.K G pGt) := opx_i0 op_gt fun _ _ _ _ => relBl.mpr rfl
abbrev pGe := pI0 fun i j => .bl (decide (j ≤ i))
theorem opx_ge : OpR X (compareOp .GtE) (q2 X.w X.K G pGe) := opx_i0 op_ge fun _ _ _ _ => relBl.mpr rfl
end
end Ev
end S_Ev2
section S_Ev2b
namespace Ev
open PySem PySem.Spec PyProof.Rows L2
theorem tuple_mul1 (l : Addr) (items : Array Value) (n : Nat) (dd : Option Addr) (sl : Array (Option Value)) (x : Int) (u : Tok) (c0 : (decide (x < -(2 ^ 63)) || decide (x ≥ 2 ^ 63)) = false) (c1 : (items.isEmpty || x == 1) = true) :
    Meets (Builtin.«tuple.__mul__» ⟨[.ref l, .int x u], []⟩) (fun _ R s => s.heap.get? l = some { cls := .type "tuple", dict := dd, data := .seq items n, slots := sl } ∧
      R (.ok (.ret (Value.ref l))) s) :=
  .of_wp fun prog w A R s h => by
    obtain ⟨hp, g, d, tk, os⟩ := s
    obtain ⟨hl, h⟩ := h
    have f1 := AutoSeq1.idx_int
    wp_walk using wpAny_loadPart' hl
    repeat (first
      | (refine wpAny_ite_false (decide_eq_false (by rw [c0]; exact Bool.false_ne_true)) ?_; wp_walk using wpAny_loadPart' hl)
      | (refine wpAny_ite_true (decide_eq_true (by rw [c1])) ?_; wp_walk using wpAny_loadPart' hl))
    exact ⟨_, rfl, h⟩
section
variable {X : Cx} {G : Nat → Addr} {E : WE} {pos : Pos} {a b c : Expr} {ra rb rc : RX}
def rRep1 (K : PySem.W.Frag) : R2 := fun x y H Q => ∃ l k xs, x = .ref l ∧ y = .int k ∧ SqT K H l xs ∧ (xs = [] ∨ k = 1) ∧ -(2 ^ 63) ≤ k ∧ k < 2 ^ 63 ∧ Q (.ref l) H
theorem op_rep1 : OpR X (binaryOp .Mult) (rRep1 X.K) := by
  intro pins s σ H x y v u Q I rx ry h
  obtain ⟨l, k, xs, rfl, rfl, hT, h1, h2, h3, q⟩ := h
  cases rx
  obtain ⟨t, rfl⟩ := ry
  obtain ⟨its, r, ⟨⟨cls, dd, data, sl⟩, ho, hc, n, hd⟩, hs⟩ := I.tuple hT
  simp only at hc hd
  subst hc hd
  have c0 : (decide (k < -(2 ^ 63)) || decide (k ≥ 2 ^ 63)) = false := by
    rw [decide_eq_false (by omega), decide_eq_false (by omega)] <;> rfl
  have c1 : (its.toArray.isEmpty || k == 1) = true := by
    rcases h1 with rfl | rfl
    · cases r; rfl
    · simp
  refine wpAny_binaryOp_repeat_ref (T := "tuple") (U := "int") (by decide) ⟨_, ho, rfl⟩ (fun s' => typeIs_int s' k t) noFill_tuple_mul F.fills_int_mul F.slot_int_rmul repeat_tuple F.slot_int_index.lookup
    (call_meets F.slot_int_rmul (typeIs_int s k t) F.entry_int_rmul (F.args_int_rmul_2 _ _) (int_rmul_tuple k t l its.toArray n dd sl)
      ⟨ho, rfl, ⟨_, ho, rfl⟩, call_meets F.slot_tuple_mul ⟨_, ho, rfl⟩ F.entry_tuple_mul (F.args_tuple_mul_2 _ _) (tuple_mul1 l its.toArray n dd sl k t c0 c1) ⟨ho, ?_⟩⟩)
  exact ⟨.ref l, H, I, rfl, q⟩
def pMul : PV → PV → Option PV
  | .int i, .int j => if (-(2 ^ 64) < i ∧ i < 2 ^ 64) ∨ (-(2 ^ 64) < j ∧ j < 2 ^ 64) then some (.int (i * j)) else none
  | .tup xs, .int k => if 1 ≤ k ∧ k ≤ 1000 ∧ xs.length ≤ 1000 then some (.tup (List.replicate k.toNat xs).flatten) else none
  | .lst xs, .int k => if 0 ≤ k ∧ k < 2 ^ 63 ∧ xs.length * k.toNat ≤ sizeLine then some (.lst (List.replicate k.toNat xs).flatten) else none
  | _, _ => none
theorem opx_mul : OpR X (binaryOp .Mult) (q2 X.w X.K G pMul) := by
  refine OpR.weak (OpR.or op_mul (OpR.or op_repT (OpR.or op_rep op_rep1))) fun x y H Q ⟨vw, a, b, z, eH, ok, ra, rb, e, q⟩ => ?_
  subst eH
  unfold pMul at e
  split at e
  · split at e
    · rename_i hl
      cases e
      rw [relInt] at ra rb
      exact .inl ⟨_, _, ra, rb, hl, q vw _ .rfl' ok rfl (relInt.mpr rfl)⟩
    · cases e
  · split at e
    · rename_i xs k hl
      obtain ⟨h1, h2, h3⟩ := hl
      cases e
      obtain ⟨p, vs, rfl, hp, l1, r1⟩ := relTup.mp ra
      rw [relInt] at rb
      subst rb
      by_cases hk : xs = [] ∨ k = 1
      · refine .inr (.inr (.inr ⟨p, k, vs, rfl, rfl, hp, ?_, by omega, by omega, ?_⟩))
        · rcases hk with rfl | rfl
          · exact .inl (List.eq_nil_of_length_eq_zero r1.len.symm)
          · exact .inr rfl
        · have e : (List.replicate k.toNat xs).flatten = xs := by
            rcases hk with rfl | rfl
            · generalize k.toNat = m
              induction m with
              | zero => rfl
              | succ m ih => rw [List.replicate_succ, List.flatten_cons, ih]; rfl
            · simp
          rw [e] at q
          exact q vw _ .rfl' ok rfl ra
      · refine .inr (.inl ⟨p, k, vs, rfl, rfl, hp, fun e => hk (.inl ?_), by omega, h2, by rw [← r1.len]; exact h3, fun u hu => ?_⟩)
        · subst e; exact List.eq_nil_of_length_eq_zero r1.len
        · have hz : (List.replicate k.toNat vs).flatten.length ≤ sizeLine := by
            rw [PyProof.Rows.lm_len_rep_flat, sizeLine_eq]
            have a1 : k.toNat * vs.length ≤ 1000 * 1000 := Nat.mul_le_mul (by omega) (by rw [← r1.len]; exact h3)
            omega
          obtain ⟨vw', eh, l, o, es, r⟩ := mkTup ok hu hz (RelPs.rep r1 k.toNat)
          rw [← eh]
          exact q vw' _ l o es r
    · cases e
  · split at e
    · rename_i xs k hl
      obtain ⟨h1, h2, h3⟩ := hl
      cases e
      obtain ⟨p, vs, rfl, _, hp, l1, r1⟩ := relLst.mp ra
      rw [relInt] at rb
      subst rb
      refine .inr (.inr (.inl ⟨p, k, vs, rfl, rfl, hp, by omega, h2, by rw [← r1.len]; exact h3, fun u hu => ?_⟩))
      have hz : (List.replicate k.toNat vs).flatten.length ≤ sizeLine := by
        rw [PyProof.Rows.lm_len_rep_flat, Nat.mul_comm, ← r1.len]
        exact h3
      obtain ⟨vw', eh, l, o, es, r⟩ := mkLst ok hu hz (RelPs.rep r1 k.toNat)
      rw [← eh]
      exact q vw' _ l o es r
    · cases e
  · cases e
/-! #### == -/
mutual
theorem RelP.dp {w : World} {K : PySem.W.Frag} {H : Hp} {Z : Addr → Prop} : ∀ (x : PV) (v : V) (d : PyData), RelP w K G H Z x v → x.toD = some d → Dp K H v d
  | .non, v, d, h, e => by rw [RelP] at h; rw [PV.toD] at e; cases e; subst h; exact .non
  | .bl b, v, d, h, e => by rw [RelP] at h; rw [PV.toD] at e; cases e; subst h; exact .bl b
  | .int b, v, d, h, e => by rw [RelP] at h; rw [PV.toD] at e; cases e; subst h; exact .int b
  | .str b, v, d, h, e => by rw [RelP] at h; rw [PV.toD] at e; cases e; subst h; exact .str b
  | .tup xs, v, d, h, e => by
    rw [RelP] at h
    rw [PV.toD] at e
    obtain ⟨ds, e1, rfl⟩ := Option.map_eq_some_iff.mp e
    obtain ⟨a, vs, rfl, t, l, r⟩ := h
    exact .tup t (RelPs.dps xs vs ds r e1)
  | .lst xs, v, d, h, e => by
    rw [RelP] at h
    rw [PV.toD] at e
    obtain ⟨ds, e1, rfl⟩ := Option.map_eq_some_iff.mp e
    obtain ⟨a, vs, rfl, _, t, l, r⟩ := h
    exact .lst (.of t) (RelPs.dps xs vs ds r e1)
  | .dct _ _ _, v, d, h, e => by rw [PV.toD] at e; cases e
  | .ins _ _ _, v, d, h, e => by rw [PV.toD] at e; cases e
  | .ty _, v, d, h, e => by rw [PV.toD] at e; cases e
  | .glb _, v, d, h, e => by rw [PV.toD] at e; cases e
  | .lsf _, v, d, h, e => by rw [PV.toD] at e; cases e
theorem RelPs.dps {w : World} {K : PySem.W.Frag} {H : Hp} {Z : Addr → Prop} : ∀ (xs : List PV) (vs : List V) (ds : List PyData), RelPs w K G H Z xs vs → PV.toDs xs = some ds → DpAll K H vs ds
  | [], vs, ds, h, e => by rw [RelPs] at h; rw [PV.toDs] at e; cases e; subst h; exact .nil
  | x :: xs, vs, ds, h, e => by
    rw [RelPs] at h
    obtain ⟨v, r, rfl, h1, h2⟩ := h
    rw [PV.toDs] at e
    split at e
    · rename_i d ds' e1 e2
      cases e
      exact .cons (RelP.dp x v d h1 e1) (RelPs.dps xs r ds' h2 e2)
    · cases e
end
/-! == of data, told by values -/
mutual
/-- how deep data are; none: not data that == takes -/
def PV.dep : PV → Option Nat
  | .non => some 0
  | .bl _ => some 0
  | .int _ => some 0
  | .str x => bif PyData.strOk x then some 0 else none
  | .tup xs => match PV.deps xs with
    | some n => some (n + 1)
    | none => none
  | .lst xs => match PV.deps xs with
    | some n => some (n + 1)
    | none => none
  | .dct _ _ _ => none
  | .ins _ _ _ => none
  | .ty _ => none
  | .glb _ => none
  | .lsf _ => none
def PV.deps : List PV → Option Nat
  | [] => some 0
  | x :: xs => match PV.dep x with
    | none => none
    | some a => match PV.deps xs with
      | none => none
      | some b => some (max a b)
end
mutual
def PV.eqv : PV → PV → Bool
  | .non, y => match y with
    | .non => true
    | _ => false
  | .bl a, y => match y with
    | .bl b => a == b
    | .int j => (if a then 1 else 0) == j
    | _ => false
  | .int i, y => match y with
    | .int j => i == j
    | .bl b => i == (if b then 1 else 0)
    | _ => false
  | .str a, y => match y with
    | .str b => a == b
    | _ => false
  | .tup xs, y => match y with
    | .tup ys => PV.eqvs xs ys
    | _ => false
  | .lst xs, y => match y with
    | .lst ys => PV.eqvs xs ys
    | _ => false
  | .dct _ _ _, _ => false
  | .ins _ _ _, _ => false
  | .ty _, _ => false
  | .glb _, _ => false
  | .lsf _, _ => false
def PV.eqvs : List PV → List PV → Bool
  | [], y => match y with
    | [] => true
    | _ :: _ => false
  | x :: xs, y => match y with
    | [] => false
    | z :: zs => bif PV.eqv x z then PV.eqvs xs zs else false
end
mutual
theorem PV.dep_d : ∀ (x : PV) (n : Nat), x.dep = some n → ∃ d, x.toD = some d ∧ d.canLay0 = true ∧ d.depth = n
  | .non, n, h => by simp only [PV.dep] at h; cases h; exact ⟨_, by rw [PV.toD], rfl, rfl⟩
  | .bl _, n, h => by simp only [PV.dep] at h; cases h; exact ⟨_, by rw [PV.toD], rfl, rfl⟩
  | .int _, n, h => by simp only [PV.dep] at h; cases h; exact ⟨_, by rw [PV.toD], rfl, rfl⟩
  | .str x, n, h => by
    simp only [PV.dep] at h
    cases e : PyData.strOk x with
    | false => rw [e] at h; cases h
    | true => rw [e] at h; cases h; exact ⟨_, by rw [PV.toD], by rw [PyData.canLay0]; exact e, rfl⟩
  | .tup xs, n, h => by
    simp only [PV.dep] at h
    split at h
    · rename_i m e
      cases h
      obtain ⟨ds, e1, e2, e3⟩ := PV.deps_d xs m e
      exact ⟨.tuple ds, by rw [PV.toD, e1]; rfl, by rw [PyData.canLay0]; exact e2, by rw [PyData.depth, e3]⟩
    · cases h
  | .lst xs, n, h => by
    simp only [PV.dep] at h
    split at h
    · rename_i m e
      cases h
      obtain ⟨ds, e1, e2, e3⟩ := PV.deps_d xs m e
      exact ⟨.list ds, by rw [PV.toD, e1]; rfl, by rw [PyData.canLay0]; exact e2, by rw [PyData.depth, e3]⟩
    · cases h
  | .dct _ _ _, n, h => by simp only [PV.dep] at h; cases h
  | .ins _ _ _, n, h => by simp only [PV.dep] at h; cases h
  | .ty _, n, h => by simp only [PV.dep] at h; cases h
  | .glb _, n, h => by simp only [PV.dep] at h; cases h
  | .lsf _, n, h => by simp only [PV.dep] at h; cases h
theorem PV.deps_d : ∀ (xs : List PV) (n : Nat), PV.deps xs = some n → ∃ ds, PV.toDs xs = some ds ∧ PyData.canLayAll0 ds = true ∧ PyData.depthAll ds = n
  | [], n, h => by simp only [PV.deps] at h; cases h; exact ⟨[], by rw [PV.toDs], rfl, rfl⟩
  | x :: xs, n, h => by
    simp only [PV.deps] at h
    split at h
    · cases h
    · rename_i a ea
      split at h
      · cases h
      · rename_i b eb
        cases h
        obtain ⟨d, e1, e2, e3⟩ := PV.dep_d x a ea
        obtain ⟨ds, g1, g2, g3⟩ := PV.deps_d xs b eb
        exact ⟨d :: ds, by rw [PV.toDs, e1, g1], by rw [PyData.canLayAll0, e2, g2]; rfl, by rw [PyData.depthAll, e3, g3]⟩
end
mutual
theorem PV.eqv_d : ∀ (x y : PV) (d e : PyData), x.toD = some d → y.toD = some e → PV.eqv x y = PyData.eqv d e
  | .non, y, d, e, h, h' => by
    rw [PV.toD] at h; cases h
    cases y <;> rw [PV.toD] at h' <;> first
      | (cases h'; simp only [PV.eqv, PyData.eqv]; done)
      | (obtain ⟨_, _, rfl⟩ := Option.map_eq_some_iff.mp h'; simp only [PV.eqv, PyData.eqv])
      | cases h'
  | .bl _, y, d, e, h, h' => by
    rw [PV.toD] at h; cases h
    cases y <;> rw [PV.toD] at h' <;> first
      | (cases h'; simp only [PV.eqv, PyData.eqv]; done)
      | (obtain ⟨_, _, rfl⟩ := Option.map_eq_some_iff.mp h'; simp only [PV.eqv, PyData.eqv])
      | cases h'
  | .int _, y, d, e, h, h' => by
    rw [PV.toD] at h; cases h
    cases y <;> rw [PV.toD] at h' <;> first
      | (cases h'; simp only [PV.eqv, PyData.eqv]; done)
      | (obtain ⟨_, _, rfl⟩ := Option.map_eq_some_iff.mp h'; simp only [PV.eqv, PyData.eqv])
      | cases h'
  | .str _, y, d, e, h, h' => by
    rw [PV.toD] at h; cases h
    cases y <;> rw [PV.toD] at h' <;> first
      | (cases h'; simp only [PV.eqv, PyData.eqv]; done)
      | (obtain ⟨_, _, rfl⟩ := Option.map_eq_some_iff.mp h'; simp only [PV.eqv, PyData.eqv])
      | cases h'
  | .tup xs, y, d, e, h, h' => by
    rw [PV.toD] at h
    obtain ⟨ds, e1, rfl⟩ := Option.map_eq_some_iff.mp h
    cases y
    case tup ys =>
      rw [PV.toD] at h'
      obtain ⟨es, e2, rfl⟩ := Option.map_eq_some_iff.mp h'
      simp only [PV.eqv, PyData.eqv]
      exact PV.eqvs_d xs ys ds es e1 e2
    all_goals
      rw [PV.toD] at h'
      first
        | (cases h'; simp only [PV.eqv, PyData.eqv]; done)
        | (obtain ⟨_, _, rfl⟩ := Option.map_eq_some_iff.mp h'; simp only [PV.eqv, PyData.eqv])
        | cases h'
  | .lst xs, y, d, e, h, h' => by
    rw [PV.toD] at h
    obtain ⟨ds, e1, rfl⟩ := Option.map_eq_some_iff.mp h
    cases y
    case lst ys =>
      rw [PV.toD] at h'
      obtain ⟨es, e2, rfl⟩ := Option.map_eq_some_iff.mp h'
      simp only [PV.eqv, PyData.eqv]
      exact PV.eqvs_d xs ys ds es e1 e2
    all_goals
      rw [PV.toD] at h'
      first
        | (cases h'; simp only [PV.eqv, PyData.eqv]; done)
        | (obtain ⟨_, _, rfl⟩ := Option.map_eq_some_iff.mp h'; simp only [PV.eqv, PyData.eqv])
        | cases h'
  | .dct _ _ _, _, _, _, h, _ => by rw [PV.toD] at h; cases h
  | .ins _ _ _, _, _, _, h, _ => by rw [PV.toD] at h; cases h
  | .ty _, _, _, _, h, _ => by rw [PV.toD] at h; cases h
  | .glb _, _, _, _, h, _ => by rw [PV.toD] at h; cases h
  | .lsf _, _, _, _, h, _ => by rw [PV.toD] at h; cases h
theorem PV.eqvs_d : ∀ (xs ys : List PV) (ds es : List PyData), PV.toDs xs = some ds → PV.toDs ys = some es → PV.eqvs xs ys = PyData.eqvAll ds es
  | [], ys, ds, es, h, h' => by
    rw [PV.toDs] at h; cases h
    cases ys with
    | nil => rw [PV.toDs] at h'; cases h'; simp only [PV.eqvs, PyData.eqvAll]
    | cons y ys =>
      rw [PV.toDs] at h'
      split at h'
      · cases h'; simp only [PV.eqvs, PyData.eqvAll]
      · cases h'
  | x :: xs, ys, ds, es, h, h' => by
    rw [PV.toDs] at h
    split at h
    · rename_i d ds' e1 e2
      cases h
      cases ys with
      | nil => rw [PV.toDs] at h'; cases h'; simp only [PV.eqvs, PyData.eqvAll]
      | cons y ys =>
        rw [PV.toDs] at h'
        split at h'
        · rename_i c cs e3 e4
          cases h'
          rw [PV.eqvs, PyData.eqvAll, PV.eqv_d x y d c e1 e3, PV.eqvs_d xs ys ds' cs e2 e4]
          cases PyData.eqv d c <;> rfl
        · cases h'
    · cases h
end
/-- data that == takes -/
def PV.dOk (x : PV) : Bool := match x.dep with
  | some n => Nat.ble n 64
  | none => false
theorem PV.dOk_d {x : PV} (h : x.dOk = true) : ∃ d, x.toD = some d ∧ SeqAt.shaped d = true := by
  unfold PV.dOk at h
  split at h
  · rename_i n e
    obtain ⟨d, e1, e2, e3⟩ := x.dep_d n e
    have h := Nat.le_of_ble_eq_true h
    refine ⟨d, e1, ?_⟩
    unfold SeqAt.shaped
    rw [e2, decide_eq_true (by omega)]
    rfl
  · cases h
/-- == of data -/
def pEqD (x y : PV) : Option Bool := bif x.dOk then (bif y.dOk then some (PV.eqv x y) else none) else none
theorem pEqD_d {x y : PV} {b : Bool} (h : pEqD x y = some b) : ∃ d e, x.toD = some d ∧ y.toD = some e ∧ SeqAt.shaped d = true ∧ SeqAt.shaped e = true ∧ b = PyData.eqv d e := by
  unfold pEqD at h
  cases h1 : x.dOk with
  | false => rw [h1] at h; cases h
  | true =>
    cases h2 : y.dOk with
    | false => rw [h1, h2] at h; cases h
    | true =>
      rw [h1, h2] at h
      cases h
      obtain ⟨d, e1, e2⟩ := PV.dOk_d h1
      obtain ⟨e, g1, g2⟩ := PV.dOk_d h2
      exact ⟨d, e, e1, g1, e2, g2, PV.eqv_d x y d e e1 g1⟩
def pEqB : PV → PV → Option Bool
  | .int i, .int j => some (decide (i = j))
  | .str i, .str j => some (decide (i = j))
  | .bl i, .bl j => some (decide (i = j))
  | x, y => pEqD x y
def pEq (x y : PV) : Option PV := (pEqB x y).map .bl
def pNe (x y : PV) : Option PV := (pEqB x y).map fun b => .bl (!b)
theorem eq_read {w : World} {K : PySem.W.Frag} {g : Bool → PV} {p : PV → PV → Option PV} (hp : ∀ x y, p x y = (pEqB x y).map g) {f : Bool → Bool} (hg : ∀ b, g b = .bl (f b)) {x y : V} {H : Hp} {Q : VK} (h : q2 w K G p x y H Q) :
    (scal x y = true ∧ Q (.bl (f (decide (x = y)))) H) ∨ (∃ d e, Dp K H x d ∧ Dp K H y e ∧ SeqAt.shaped d = true ∧ SeqAt.shaped e = true ∧ Q (.bl (f (PyData.eqv d e))) H) := by
  obtain ⟨vw, a, b, z, eH, ok, ra, rb, e0, q⟩ := h
  subst eH
  rw [hp] at e0
  obtain ⟨c, e, ez⟩ := Option.map_eq_some_iff.mp e0
  clear e0
  subst ez
  have fin : ∀ c', c = c' → Q (.bl (f c')) vw.H := fun c' h => by subst h; exact q vw _ .rfl' ok rfl (by rw [hg]; exact relBl.mpr rfl)
  have gen : ∀ {a b : PV}, RelP w K G vw.H vw.Z a x → RelP w K G vw.H vw.Z b y → pEqD a b = some c → ∃ d e, Dp K vw.H x d ∧ Dp K vw.H y e ∧ SeqAt.shaped d = true ∧ SeqAt.shaped e = true ∧ Q (.bl (f (PyData.eqv d e))) vw.H := fun {a b} ra rb e => by
    obtain ⟨d, e', e1, e2, h1, h2, h3⟩ := pEqD_d e
    exact ⟨d, e', ra.dp _ _ _ e1, rb.dp _ _ _ e2, h1, h2, fin _ h3⟩
  unfold pEqB at e
  split at e
  · rw [relInt] at ra rb
    subst ra rb
    refine .inl ⟨rfl, fin _ ?_⟩
    cases e; simp
  · rw [relStr] at ra rb
    subst ra rb
    refine .inl ⟨rfl, fin _ ?_⟩
    cases e; simp
  · rw [relBl] at ra rb
    subst ra rb
    refine .inl ⟨rfl, fin _ ?_⟩
    cases e; simp
  · exact .inr (gen ra rb e)
theorem opx_eq (hu : X.A.units + 64 < cLine) : OpR X (compareOp .Eq) (q2 X.w X.K G pEq) := OpR.weak (OpR.or op_eq (op_eqD hu)) fun x y H Q h => eq_read (f := id) (fun _ _ => rfl) (fun _ => rfl) h
theorem opx_ne (hu : X.A.units + 64 < cLine) : OpR X (compareOp .NotEq) (q2 X.w X.K G pNe) := OpR.weak (OpR.or op_ne (op_neD hu)) fun x y H Q h => eq_read (f := not) (fun _ _ => rfl) (fun _ => rfl) h
/-! #### is -/
def PV.isNon : PV → Bool
  | .non => true
  | _ => false
def pIs (n : Bool) : PV → PV → Option PV
  | .bl a, .bl b => some (.bl (decide (a = b) != n))
  | x, .non => some (.bl (x.isNon != n))
  | _, _ => none
theorem rel_isNon {w : World} {K : PySem.W.Frag} {H : Hp} {Z : Addr → Prop} : ∀ {x : PV} {v : V}, RelP w K G H Z x v → decide (v = .non) = x.isNon := by
  intro x v h
  cases x
  case dct nk ks us => cases nk <;> (rw [RelP] at h; obtain ⟨_, rfl, _⟩ := h; rfl)
  all_goals rw [RelP] at h
  case non => subst h; rfl
  case bl => subst h; rfl
  case int => subst h; rfl
  case str => subst h; rfl
  case ty => subst h; rfl
  case glb => subst h; rfl
  case tup => obtain ⟨_, _, rfl, _⟩ := h; rfl
  case lst => obtain ⟨_, _, rfl, _⟩ := h; rfl
  case lsf => obtain ⟨_, _, rfl, _⟩ := h; rfl
  case ins => obtain ⟨_, _, _, rfl, _⟩ := h; rfl
theorem opx_is : OpR X (compareOp .Is) (q2 X.w X.K G (pIs false)) := by
  refine OpR.weak (OpR.or op_isN op_is_bl) fun x y H Q ⟨vw, a, b, z, eH, ok, ra, rb, e, q⟩ => ?_
  subst eH
  unfold pIs at e
  split at e
  · cases e
    rw [relBl] at ra rb
    exact .inr ⟨_, _, ra, rb, q vw _ .rfl' ok rfl (by rw [Bool.bne_false]; exact relBl.mpr rfl)⟩
  · cases e
    rw [relNon] at rb
    exact .inl ⟨rb, q vw _ .rfl' ok rfl (by rw [Bool.bne_false, rel_isNon ra]; exact relBl.mpr rfl)⟩
  · cases e
theorem opx_isnot : OpR X (compareOp .IsNot) (q2 X.w X.K G (pIs true)) := by
  refine OpR.weak (OpR.or op_notN op_isnot_bl) fun x y H Q ⟨vw, a, b, z, eH, ok, ra, rb, e, q⟩ => ?_
  subst eH
  unfold pIs at e
  split at e
  · cases e
    rw [relBl] at ra rb
    exact .inr ⟨_, _, ra, rb, q vw _ .rfl' ok rfl (by rw [Bool.bne_true]; exact relBl.mpr rfl)⟩
  · cases e
    rw [relNon] at rb
    exact .inl ⟨rb, q vw _ .rfl' ok rfl (by rw [Bool.bne_true, rel_isNon ra]; exact relBl.mpr rfl)⟩
  · cases e
end
end Ev
end S_Ev2b
section S_Ev3
namespace Ev
open PySem PySem.Spec PyProof.Rows L2
/-! ### dicts with nested keys -/
section
variable {X : Cx} {G : Nat → Addr} {pins : List (Addr × Obj)} {σ : SSt} {H : Hp} {s : Shared} {Z : Addr → Prop}
mutual
theorem RelP.nk (I : Inv X pins σ H s) : ∀ (x : PV) (v : V) (u : Value) (k : NestedKey), RelP X.w X.K G H Z x v → RelV v u → x.toK = some k → NestedIs s.heap k u
  | .non, v, u, k, h, r, e => by rw [RelP] at h; rw [PV.toK] at e; cases e; subst h; cases r; exact .none
  | .bl b, v, u, k, h, r, e => by rw [RelP] at h; rw [PV.toK] at e; cases e; subst h; cases r; exact .bool rfl
  | .int b, v, u, k, h, r, e => by rw [RelP] at h; rw [PV.toK] at e; cases e; subst h; obtain ⟨t, rfl⟩ := r; exact .int _ _
  | .str b, v, u, k, h, r, e => by rw [RelP] at h; rw [PV.toK] at e; cases e; subst h; obtain ⟨t, rfl⟩ := r; exact .text _ _
  | .tup xs, v, u, k, h, r, e => by
    rw [RelP] at h
    rw [PV.toK] at e
    obtain ⟨ks, e1, rfl⟩ := Option.map_eq_some_iff.mp e
    obtain ⟨a, vs, rfl, t, l, rs⟩ := h
    cases r
    obtain ⟨its, rv, ⟨o, ho, hc, n, hd⟩, _⟩ := I.tuple t
    exact .tup ho hc hd (by simpa using RelPs.nks I xs vs its ks rs rv e1)
  | .lst _, v, u, k, h, r, e => by rw [PV.toK] at e; cases e
  | .dct _ _ _, v, u, k, h, r, e => by rw [PV.toK] at e; cases e
  | .ins _ _ _, v, u, k, h, r, e => by rw [PV.toK] at e; cases e
  | .ty _, v, u, k, h, r, e => by rw [PV.toK] at e; cases e
  | .glb _, v, u, k, h, r, e => by rw [PV.toK] at e; cases e
  | .lsf _, v, u, k, h, r, e => by rw [PV.toK] at e; cases e
theorem RelPs.nks (I : Inv X pins σ H s) : ∀ (xs : List PV) (vs : List V) (us : List Value) (ks : List NestedKey), RelPs X.w X.K G H Z xs vs → Vals vs us → PV.toKs xs = some ks → NestedAll s.heap ks us
  | [], vs, us, ks, h, r, e => by rw [RelPs] at h; rw [PV.toKs] at e; cases e; subst h; cases r; exact .nil
  | x :: xs, vs, us, ks, h, r, e => by
    rw [RelPs] at h
    obtain ⟨v, rr, rfl, h1, h2⟩ := h
    rw [PV.toKs] at e
    split at e
    · rename_i d ds' e1 e2
      cases e
      cases r with
      | cons r1 r2 => exact .cons (RelP.nk I x v _ d h1 r1 e1) (RelPs.nks I xs rr _ ds' h2 r2 e2)
    · cases e
end
/-- each key stands -/
theorem keys_stand (I : Inv X pins σ H s) : ∀ (ks : List PV) (xs : List (NestedKey × Addr × V)), RelPs X.w X.K G H Z ks (xs.map fun x => V.ref x.2.1) → PV.toKs ks = some (xs.map (·.1)) → (∀ x ∈ xs, x.1.depth ≤ 8) →
    ∀ x ∈ xs, (nestedKind X.prog X.w).is s.heap x.1 x.2.1
  | [], [], _, _, _, x, hx => by cases hx
  | [], _ :: _, h, _, _, x, hx => by rw [RelPs] at h; cases h
  | k :: ks, [], h, _, _, x, hx => by cases hx
  | k :: ks, y :: xs, h, e, d, x, hx => by
    rw [RelPs] at h
    obtain ⟨v, r, e0, h1, h2⟩ := h
    rw [List.map_cons] at e0
    injection e0 with ev er
    subst ev er
    rw [PV.toKs] at e
    split at e
    · rename_i d1 ds e1 e2
      rw [List.map_cons] at e
      injection e with e
      injection e with ea eb
      rcases List.mem_cons.mp hx with rfl | hx
      · exact ⟨RelP.nk I k _ _ _ h1 rfl (e1.trans (congrArg some ea)), d _ List.mem_cons_self⟩
      · exact keys_stand I ks xs h2 (e2.trans (congrArg some eb)) (fun x hx => d x (List.mem_cons_of_mem _ hx)) x hx
    · cases e
/-- the entries' values -/
abbrev XV : List (NestedKey × Addr × V) → List (NestedKey × Addr × Value) → Prop := Paired fun x y => y.1 = x.1 ∧ y.2.1 = x.2.1 ∧ RelV x.2.2 y.2.2
theorem dn_entries {w : World} {P : Program} : ∀ {xs : List (NestedKey × Addr × V)} {es : List DictEntry}, Paired (fun (x : NestedKey × Addr × V) (e : DictEntry) => ∃ v, RelV x.2.2 v ∧ e = ⟨x.1.hash w, .ref x.2.1, v⟩) xs es →
    ∃ ys, XV xs ys ∧ es = ys.map (entryOfKey (nestedKind P w)) ∧ ys.map (·.1) = xs.map (·.1)
  | [], _, .nil => ⟨[], .nil, rfl, rfl⟩
  | x :: xs, _, .cons ⟨v, r, e⟩ t => by
    obtain ⟨ys, h1, h2, h3⟩ := dn_entries (P := P) t
    refine ⟨(x.1, x.2.1, v) :: ys, .cons ⟨rfl, rfl, r⟩ h1, ?_, ?_⟩
    · rw [e, h2]; rfl
    · rw [List.map_cons, List.map_cons, h3]
theorem XV.mem_of : ∀ {xs : List (NestedKey × Addr × V)} {ys : List (NestedKey × Addr × Value)}, XV xs ys → ∀ y ∈ ys, ∃ x ∈ xs, y.1 = x.1 ∧ y.2.1 = x.2.1
  | _, _, .nil, y, h => by cases h
  | _, _, .cons ⟨e1, e2, _⟩ t, y, h => by
    rcases List.mem_cons.mp h with rfl | h
    · exact ⟨_, List.mem_cons_self, e1, e2⟩
    · obtain ⟨x, hx, q⟩ := XV.mem_of t y h
      exact ⟨x, List.mem_cons_of_mem _ hx, q⟩
theorem dn_at (I : Inv X pins σ H s) {a : Addr} {xs : List (NestedKey × Addr × V)} {ks : List PV} (h : Rd H a (DN X.w a xs)) (hk : PV.toKs ks = some (xs.map (·.1))) (hd : ∀ x ∈ xs, x.1.depth ≤ 8) (hr : RelPs X.w X.K G H Z ks (xs.map fun x => V.ref x.2.1)) :
    (a == sysModules) = false ∧ xs.length ≤ sizeLine ∧ ∃ ys, XV xs ys ∧ s.heap.DictOfH (nestedKind X.prog X.w) a ys := by
  obtain ⟨⟨h1, h2, o, es, ep, ho, he, hdt, hp, hn⟩, _⟩ := h.ok I.hok
  obtain ⟨ys, x1, x2, x3⟩ := dn_entries (P := X.prog) hp
  refine ⟨h1, h2, ys, x1, o, es, ep, ho, he, hdt, x2, fun y hy => ?_, by rw [x3]; exact hn⟩
  obtain ⟨x, hx, e1, e2⟩ := x1.mem_of y hy
  rw [e1, e2]
  exact keys_stand I ks xs hr hk hd x hx
end
/-- what a key finds -/
def kFind : List NestedKey → List PV → NestedKey → Option PV
  | k :: ks, u :: us, j => if k = j then some u else kFind ks us j
  | _, _, _ => none
section
variable {X : Cx} {G : Nat → Addr} {Z : Addr → Prop} {H : Hp}
theorem kFind_at {w : World} {K : PySem.W.Frag} : ∀ {xs : List (NestedKey × Addr × V)} {ys : List (NestedKey × Addr × Value)} {us : List PV} {j : NestedKey}, XV xs ys → RelPs w K G H Z us (xs.map (·.2.2)) →
    match kFind (xs.map (·.1)) us j with
    | some z => ∃ p v, atKey ys j = some p ∧ RelV v p.2 ∧ RelP w K G H Z z v
    | none => atKey ys j = none
  | [], _, us, j, .nil, h => by
    rw [List.map_nil, RelPs.eq_def] at h
    cases us with
    | nil => rfl
    | cons u us => obtain ⟨_, _, e, _⟩ := h; cases e
  | x :: xs, _, [], j, _, h => by rw [RelPs] at h; cases h
  | x :: xs, _, u :: us, j, .cons (b := y) ⟨e1, e2, r⟩ t, h => by
    rw [RelPs] at h
    obtain ⟨v, rr, e0, h1, h2⟩ := h
    rw [List.map_cons] at e0
    injection e0 with ev er
    subst ev er
    rw [List.map_cons]
    unfold kFind
    by_cases c : x.1 = j
    · rw [if_pos c]
      refine ⟨y.2, _, ?_, r, h1⟩
      unfold atKey
      rw [List.find?_cons, show decide (y.1 = j) = true from decide_eq_true (e1.trans c)]
      rfl
    · rw [if_neg c]
      have q := kFind_at (j := j) t h2
      have e : ∀ r, atKey (y :: r) j = atKey r j := fun r => by
        unfold atKey
        rw [List.find?_cons, show decide (y.1 = j) = false from decide_eq_false (fun z => c (e1.symm.trans z))]
      rw [e]
      exact q
theorem toK_kP (k : Key) : (kP k).toK = some (match k with | .inl i => .num i | .inr x => .text x) := by
  cases k with
  | inl i => rw [kP, PV.toK]
  | inr i => rw [kP, PV.toK]
/-- a flat key -/
def PV.flatK : PV → Option Key
  | .int i => some (.inl i)
  | .str x => some (.inr x)
  | _ => none
def fFind : List PV → List PV → Key → Option PV
  | k :: ks, u :: us, j => if k.flatK = some j then some u else fFind ks us j
  | _, _, _ => none
theorem flatK_kP (k : Key) : (kP k).flatK = some k := by cases k <;> rfl
theorem fFind_at {w : World} {K : PySem.W.Frag} : ∀ {kvs : List (Key × V)} {us : List PV} {j : Key}, RelPs w K G H Z us (kvs.map (·.2)) →
    match fFind (kvs.map fun kv => kP kv.1) us j with
    | some z => ∃ v, valV kvs j = some v ∧ RelP w K G H Z z v
    | none => valV kvs j = none
  | [], us, j, h => by
    rw [List.map_nil, RelPs.eq_def] at h
    cases us with
    | nil => rfl
    | cons u us => obtain ⟨_, _, e, _⟩ := h; cases e
  | x :: xs, [], j, h => by rw [RelPs] at h; cases h
  | x :: xs, u :: us, j, h => by
    rw [RelPs] at h
    obtain ⟨v, rr, e0, h1, h2⟩ := h
    rw [List.map_cons] at e0
    injection e0 with ev er
    subst ev er
    rw [List.map_cons]
    unfold fFind
    rw [flatK_kP]
    by_cases c : x.1 = j
    · rw [if_pos (congrArg some c)]
      exact ⟨_, valV_pos c, h1⟩
    · rw [if_neg (fun z => c (Option.some.inj z)), valV_neg c]
      exact fFind_at h2
end
/-! keys told by values -/
mutual
/-- two values are one key -/
def PV.eqK : PV → PV → Bool
  | .int a, y => match y with
    | .int b => decide (a = b)
    | .bl b => decide (a = if b then 1 else 0)
    | _ => false
  | .tup a, y => match y with
    | .tup b => PV.eqKs a b
    | _ => false
  | .str a, y => match y with
    | .str b => decide (a = b)
    | _ => false
  | .bl a, y => match y with
    | .int b => decide ((if a then 1 else 0) = b)
    | .bl b => a == b
    | _ => false
  | .non, y => match y with
    | .non => true
    | _ => false
  | .lst _, _ => false
  | .dct _ _ _, _ => false
  | .ins _ _ _, _ => false
  | .ty _, _ => false
  | .glb _, _ => false
  | .lsf _, _ => false
def PV.eqKs : List PV → List PV → Bool
  | [], y => match y with
    | [] => true
    | _ :: _ => false
  | x :: xs, y => match y with
    | [] => false
    | z :: zs => bif PV.eqK x z then PV.eqKs xs zs else false
end
theorem num_dec (a b : Int) : decide (NestedKey.num a = NestedKey.num b) = decide (a = b) := by
  by_cases h : a = b
  · rw [decide_eq_true h, decide_eq_true (by rw [h])]
  · rw [decide_eq_false h, decide_eq_false (fun z => h (NestedKey.num.inj z))]
theorem text_dec (a b : Str) : decide (NestedKey.text a = NestedKey.text b) = decide (a = b) := by
  by_cases h : a = b
  · rw [decide_eq_true h, decide_eq_true (by rw [h])]
  · rw [decide_eq_false h, decide_eq_false (fun z => h (NestedKey.text.inj z))]
theorem tup_dec (a b : List NestedKey) : decide (NestedKey.tup a = NestedKey.tup b) = decide (a = b) := by
  by_cases h : a = b
  · rw [decide_eq_true h, decide_eq_true (by rw [h])]
  · rw [decide_eq_false h, decide_eq_false (fun z => h (NestedKey.tup.inj z))]
mutual
theorem PV.eqK_eq : ∀ (x y : PV) (a b : NestedKey), x.toK = some a → y.toK = some b → PV.eqK x y = decide (a = b)
  | .int i, y, a, b, h, h' => by
    rw [PV.toK] at h; cases h
    cases y <;> rw [PV.toK] at h' <;> first
      | (cases h'; (simp only [PV.eqK, num_dec]); done)
      | (obtain ⟨_, _, rfl⟩ := Option.map_eq_some_iff.mp h'; exact Eq.trans (b := false) (by simp only [PV.eqK]) (decide_eq_false fun z => nomatch z).symm)
      | (cases h'; exact Eq.trans (b := false) (by simp only [PV.eqK]) (decide_eq_false fun z => nomatch z).symm)
      | cases h'
  | .bl i, y, a, b, h, h' => by
    rw [PV.toK] at h; cases h
    cases y <;> rw [PV.toK] at h' <;> first
      | (cases h'; (simp only [PV.eqK, num_dec]); done)
      | (rename_i j; cases h'; (simp only [PV.eqK, num_dec]); cases i <;> cases j <;> rfl)
      | (obtain ⟨_, _, rfl⟩ := Option.map_eq_some_iff.mp h'; exact Eq.trans (b := false) (by simp only [PV.eqK]) (decide_eq_false fun z => nomatch z).symm)
      | (cases h'; exact Eq.trans (b := false) (by simp only [PV.eqK]) (decide_eq_false fun z => nomatch z).symm)
      | cases h'
  | .str i, y, a, b, h, h' => by
    rw [PV.toK] at h; cases h
    cases y <;> rw [PV.toK] at h' <;> first
      | (cases h'; (simp only [PV.eqK, text_dec]); done)
      | (obtain ⟨_, _, rfl⟩ := Option.map_eq_some_iff.mp h'; exact Eq.trans (b := false) (by simp only [PV.eqK]) (decide_eq_false fun z => nomatch z).symm)
      | (cases h'; exact Eq.trans (b := false) (by simp only [PV.eqK]) (decide_eq_false fun z => nomatch z).symm)
      | cases h'
  | .non, y, a, b, h, h' => by
    rw [PV.toK] at h; cases h
    cases y <;> rw [PV.toK] at h' <;> first
      | (cases h'; exact Eq.trans (b := true) (by simp only [PV.eqK]) (decide_eq_true rfl).symm)
      | (obtain ⟨_, _, rfl⟩ := Option.map_eq_some_iff.mp h'; exact Eq.trans (b := false) (by simp only [PV.eqK]) (decide_eq_false fun z => nomatch z).symm)
      | (cases h'; exact Eq.trans (b := false) (by simp only [PV.eqK]) (decide_eq_false fun z => nomatch z).symm)
      | cases h'
  | .tup xs, y, a, b, h, h' => by
    rw [PV.toK] at h
    obtain ⟨ks, e1, rfl⟩ := Option.map_eq_some_iff.mp h
    cases y
    case tup ys =>
      rw [PV.toK] at h'
      obtain ⟨ls, e2, rfl⟩ := Option.map_eq_some_iff.mp h'
      simp only [PV.eqK, tup_dec]
      exact PV.eqKs_eq xs ys ks ls e1 e2
    all_goals
      rw [PV.toK] at h'
      cases h' <;> (exact Eq.trans (b := false) (by simp only [PV.eqK]) (decide_eq_false fun z => nomatch z).symm)
  | .lst _, _, _, _, h, _ => by rw [PV.toK] at h; cases h
  | .dct _ _ _, _, _, _, h, _ => by rw [PV.toK] at h; cases h
  | .ins _ _ _, _, _, _, h, _ => by rw [PV.toK] at h; cases h
  | .ty _, _, _, _, h, _ => by rw [PV.toK] at h; cases h
  | .glb _, _, _, _, h, _ => by rw [PV.toK] at h; cases h
  | .lsf _, _, _, _, h, _ => by rw [PV.toK] at h; cases h
theorem PV.eqKs_eq : ∀ (xs ys : List PV) (a b : List NestedKey), PV.toKs xs = some a → PV.toKs ys = some b → PV.eqKs xs ys = decide (a = b)
  | [], ys, a, b, h, h' => by
    rw [PV.toKs] at h; cases h
    cases ys with
    | nil => rw [PV.toKs] at h'; cases h'; exact Eq.trans (b := true) (by simp only [PV.eqKs]) rfl
    | cons y ys =>
      rw [PV.toKs] at h'
      split at h'
      · cases h'; exact Eq.trans (b := false) (by simp only [PV.eqKs]) (decide_eq_false fun z => nomatch z).symm
      · cases h'
  | x :: xs, ys, a, b, h, h' => by
    rw [PV.toKs] at h
    split at h
    · rename_i d ds e1 e2
      cases h
      cases ys with
      | nil => rw [PV.toKs] at h'; cases h'; exact Eq.trans (b := false) (by simp only [PV.eqKs]) (decide_eq_false fun z => nomatch z).symm
      | cons y ys =>
        rw [PV.toKs] at h'
        split at h'
        · rename_i c cs e3 e4
          cases h'
          rw [PV.eqKs, PV.eqK_eq x y d c e1 e3, PV.eqKs_eq xs ys ds cs e2 e4]
          by_cases h1 : d = c
          · subst h1
            rw [decide_eq_true rfl, cond_true]
            by_cases h2 : ds = cs
            · rw [decide_eq_true h2, decide_eq_true (by rw [h2])]
            · rw [decide_eq_false h2, decide_eq_false (fun z => h2 (List.cons.inj z).2)]
          · rw [decide_eq_false h1, cond_false, decide_eq_false (fun z => h1 (List.cons.inj z).1)]
        · cases h'
    · cases h
end
def pFind : List PV → List PV → PV → Option PV
  | k :: ks, u :: us, j => bif PV.eqK k j then some u else pFind ks us j
  | _, _, _ => none
theorem toKs_cons {k : PV} {ks : List PV} {kk : List NestedKey} (h : PV.toKs (k :: ks) = some kk) : ∃ d ds, k.toK = some d ∧ PV.toKs ks = some ds ∧ kk = d :: ds := by
  rw [PV.toKs] at h
  split at h
  · rename_i d ds e1 e2
    cases h
    exact ⟨d, ds, e1, e2, rfl⟩
  · cases h
theorem pFind_eq {k : PV} {j : NestedKey} (hj : k.toK = some j) : ∀ {ks : List PV} {kk : List NestedKey} {us : List PV}, PV.toKs ks = some kk → pFind ks us k = kFind kk us j
  | [], kk, us, h => by rw [PV.toKs] at h; cases h; unfold pFind kFind; rfl
  | x :: xs, kk, [], h => by
    obtain ⟨d, ds, _, _, rfl⟩ := toKs_cons h
    unfold pFind kFind; rfl
  | x :: xs, kk, u :: us, h => by
    obtain ⟨d, ds, e1, e2, rfl⟩ := toKs_cons h
    rw [pFind, kFind, PV.eqK_eq x k d j e1 hj, pFind_eq hj e2]
    by_cases c : d = j
    · rw [decide_eq_true c, if_pos c, cond_true]
    · rw [decide_eq_false c, if_neg c, cond_false]
/-- d[k], k in d -/
def dGet (nk : Bool) (ks us : List PV) (k : PV) : Option (Option PV) := match nk with
  | false => (match k.flatK with
    | some j => some (fFind ks us j)
    | none => none)
  | true => (match k with
    | .tup zs => (match PV.toK (.tup zs) with
      | some j => if j.depth ≤ 8 then some (pFind ks us (.tup zs)) else none
      | none => none)
    | _ => none)
end Ev
end S_Ev3
section S_Ev4
namespace Ev
open PySem PySem.Spec PyProof.Rows L2
/-! ### operations by values that read the store -/
def q2s (w : World) (K : PySem.W.Frag) (G : Nat → Addr) (p : Sto → VV → VV → Option PV) : R2 := fun x y H Q => ∃ vw a b z, vw.H = H ∧ VOk w K G vw ∧ RelVV w K G vw a x ∧ RelVV w K G vw b y ∧ p vw.st a b = some z ∧
  ∀ vw' v, Le K vw vw' → VOk w K G vw' → vw'.st = vw.st → RelP w K G vw'.H vw'.Z z v → Q v vw'.H
def r2s (p : Sto → VV → VV → Option PV) (ra rb : RX) : RX := fun env st => (ra env st).bind fun x st1 => (rb env st1).bind fun y st2 => match p st2 x y with
  | some z => .ok (.p z) st2
  | none => .no
section
variable {X : Cx} {G : Nat → Addr} {E : WE} {pos : Pos} {a b c : Expr} {ra rb rc : RX}
theorem bin_reads {w : World} {K : PySem.W.Frag} {p : Sto → VV → VV → Option PV} {σ : SSt} {H : Hp} {Q : VK} (h : tE w K G E (r2s p ra rb) σ H Q) : tE w K G E ra σ H fun x H1 => tE w K G E rb σ H1 fun y H2 => q2s w K G p x y H2 Q := by
  obtain ⟨vw, env, eH, ok, re, q⟩ := h
  refine ⟨vw, env, eH, ok, re, (GQ.bind q).imp fun vw1 x l1 ok1 q1 v1 r1 => ?_⟩
  refine ⟨vw1, env, rfl, ok1, re.mono l1, (GQ.bind q1).imp fun vw2 y l2 ok2 q2 v2 rv2 => ?_⟩
  split at q2
  · rename_i z ez
    exact ⟨vw2, x, y, z, rfl, ok2, l2.v r1, rv2, ez, fun vw' v l o e r => q2 vw' l o e v r⟩
  · exact q2.elim
theorem px_cmps {op : CmpOp} {p : Sto → VV → VV → Option PV} (ho : OpR X (compareOp op) (q2s X.w X.K G p)) (ha : PX X G E a ra) (hb : PX X G E b rb) (hm : behindInMarks op b = false) : PX X G E (.Compare a [op] [b] pos) (r2s p ra rb) :=
  (pe_cmpR ho ha hb hm).weak fun σ H Q h => bin_reads h
/-! #### in -/
def PV.flat : PV → Bool
  | .non => true
  | .bl _ => true
  | .int _ => true
  | .str _ => true
  | _ => false
def eqF : PV → PV → Bool
  | .non, .non => true
  | .bl a, .bl b => a == b
  | .bl a, .int b => (if a then 1 else 0) == b
  | .int a, .bl b => a == (if b then 1 else 0)
  | .int a, .int b => a == b
  | .str a, .str b => a == b
  | _, _ => false
theorem flat_rel {w : World} {K : PySem.W.Frag} {H : Hp} {Z : Addr → Prop} {x : PV} {v : V} (h : RelP w K G H Z x v) (f : x.flat = true) : flatV v = true := by
  cases x <;> first
    | exact absurd (show false = true from f) Bool.false_ne_true
    | (rw [RelP] at h; subst h; rfl)
theorem eqF_rel {w : World} {K : PySem.W.Frag} {H : Hp} {Z : Addr → Prop} {x y : PV} {v u : V} (h : RelP w K G H Z x v) (h' : RelP w K G H Z y u) (f : x.flat = true) (f' : y.flat = true) : eqV v u = eqF x y := by
  cases x <;> first
    | exact absurd (show false = true from f) Bool.false_ne_true
    | (rw [RelP] at h
       subst h
       cases y <;> first
         | exact absurd (show false = true from f') Bool.false_ne_true
         | (rw [RelP] at h'; subst h'; rfl))
theorem flats_rel {w : World} {K : PySem.W.Frag} {H : Hp} {Z : Addr → Prop} : ∀ {xs : List PV} {vs : List V}, RelPs w K G H Z xs vs → xs.all PV.flat = true → vs.all flatV = true
  | [], _, h, _ => by rw [RelPs] at h; rw [h]; rfl
  | x :: xs, _, h, f => by
    rw [RelPs] at h
    obtain ⟨v, r, rfl, h1, h2⟩ := h
    rw [List.all_cons, Bool.and_eq_true] at f ⊢
    exact ⟨flat_rel h1 f.1, flats_rel h2 f.2⟩
theorem inV_rel {w : World} {K : PySem.W.Frag} {H : Hp} {Z : Addr → Prop} {y : PV} {u : V} (hy : RelP w K G H Z y u) (fy : y.flat = true) : ∀ {xs : List PV} {vs : List V}, RelPs w K G H Z xs vs → xs.all PV.flat = true → inV u vs = xs.any fun x => eqF x y
  | [], _, h, _ => by rw [RelPs] at h; rw [h]; rfl
  | x :: xs, _, h, f => by
    rw [RelPs] at h
    obtain ⟨v, r, rfl, h1, h2⟩ := h
    rw [List.all_cons, Bool.and_eq_true] at f
    have ih := inV_rel hy fy h2 f.2
    unfold inV at ih ⊢
    rw [List.any_cons, List.any_cons, ih, eqF_rel h1 hy f.1 fy]
/-- x in a list, a tuple -/
def pInL (x : PV) (ys : List PV) : Option Bool := if x.flat = true ∧ ys.all PV.flat = true then some (ys.any fun y => eqF y x) else bif x.dOk then (match PV.deps ys with
  | some _ => some (ys.any fun z => PV.eqv z x)
  | none => none) else none
theorem any_eqv {x : PV} {d : PyData} (hx : x.toD = some d) : ∀ {ys : List PV} {ds : List PyData}, PV.toDs ys = some ds → (ys.any fun z => PV.eqv z x) = ds.any fun z => PyData.eqv z d
  | [], ds, h => by rw [PV.toDs] at h; cases h; rfl
  | y :: ys, ds, h => by
    rw [PV.toDs] at h
    split at h
    · rename_i c cs e1 e2
      cases h
      rw [List.any_cons, List.any_cons, PV.eqv_d y x c d e1 hx, any_eqv hx e2]
    · cases h
def pInP (x : PV) : PV → Option Bool
  | .lst ys => pInL x ys
  | .tup ys => pInL x ys
  | .dct nk ks us => (dGet nk ks us x).map (·.isSome)
  | .str z => (match x with
    | .str y => (match y.cps.toList with
      | [c] => some (decide (c ∈ z.cps.toList))
      | _ => none)
    | _ => none)
  | _ => none
def pIn (n : Bool) (st : Sto) : VV → VV → Option PV
  | .p x, .p y => (pInP x y).map fun b => .bl (b != n)
  | .p x, .ref m => (match st[m]? with
    | some (some (.lst _ ys)) => (pInL x ys).map fun b => .bl (b != n)
    | some (some (.dct nk _ ks us)) => (dGet nk ks us x).map fun o => .bl (o.isSome != n)
    | _ => none)
  | _, _ => none
/-- what is asked of y in: a flat list, a tuple, data, a dict, a text -/
def inRd (w : World) (K : PySem.W.Frag) (G : Nat → Addr) (H : Hp) (Z : Addr → Prop) (x y : V) (b : Bool) : Prop :=
  (∃ p xs, y = .ref p ∧ (SqL K H p xs ∨ SqT K H p xs) ∧ flatV x = true ∧ xs.all flatV = true ∧ b = inV x xs) ∨
  (∃ d ds, Dp K H x d ∧ (Dp K H y (.list ds) ∨ Dp K H y (.tuple ds)) ∧ SeqAt.shaped d = true ∧ PyData.canLayAll0 ds = true ∧ b = ds.any fun z => PyData.eqv z d) ∨
  (∃ p kvs k, y = .ref p ∧ x = kV k ∧ Rd H p (.dK kvs) ∧ b = (valV kvs k).isSome) ∨
  (∃ p xs ks us x' j zs, y = .ref p ∧ Rd H p (DN w p xs) ∧ PV.toKs ks = some (xs.map (·.1)) ∧ (∀ x ∈ xs, x.1.depth ≤ 8) ∧ RelPs w K G H Z ks (xs.map fun x => V.ref x.2.1) ∧ RelPs w K G H Z us (xs.map (·.2.2)) ∧
    x' = PV.tup zs ∧ RelP w K G H Z x' x ∧ x'.toK = some j ∧ j.depth ≤ 8 ∧ b = (kFind (xs.map (·.1)) us j).isSome) ∨
  (∃ c z, x = .str ⟨#[c]⟩ ∧ y = .str z ∧ b = decide (c ∈ z.cps.toList))
theorem inL_rd {w : World} {K : PySem.W.Frag} {H : Hp} {Z : Addr → Prop} {x : PV} {v : V} {ys : List PV} {us : List V} {p : Addr} {b : Bool} (h : RelP w K G H Z x v) (hq : SqL K H p us ∨ SqT K H p us) (hs : RelPs w K G H Z ys us) (e : pInL x ys = some b) : inRd w K G H Z v (.ref p) b := by
  unfold pInL at e
  split at e
  · rename_i f
    cases e
    exact .inl ⟨p, us, rfl, hq, flat_rel h f.1, flats_rel hs f.2, (inV_rel h f.1 hs f.2).symm⟩
  · cases hx : x.dOk with
    | false => rw [hx] at e; cases e
    | true =>
      rw [hx, cond_true] at e
      split at e
      · rename_i m em
        cases e
        obtain ⟨d, e1, h1⟩ := PV.dOk_d hx
        obtain ⟨ds, e2, h2, _⟩ := PV.deps_d _ _ em
        refine .inr (.inl ⟨d, ds, h.dp _ _ _ e1, ?_, h1, h2, any_eqv e1 e2⟩)
        rcases hq with hq | hq
        · exact .inl (.lst hq (hs.dps _ _ _ e2))
        · exact .inr (.tup hq (hs.dps _ _ _ e2))
      · cases e
theorem kV_kP {w : World} {K : PySem.W.Frag} {H : Hp} {Z : Addr → Prop} {x : PV} {v : V} {j : Key} (h : RelP w K G H Z x v) (e : x.flatK = some j) : v = kV j := by
  cases x <;> first
    | (rw [RelP] at h; subst h; cases e; rfl)
    | cases e
theorem dct_rd {w : World} {K : PySem.W.Frag} {vw : Vw} {x : PV} {v : V} {nk : Bool} {ks us : List PV} {o : Option PV} {p : Addr} (h : RelP w K G vw.H vw.Z x v)
    (hf : nk = false → ∃ kvs : List (Key × V), Rd vw.H p (.dK kvs) ∧ ks = kvs.map (fun kv => kP kv.1) ∧ RelPs w K G vw.H vw.Z us (kvs.map (·.2)))
    (ht : nk = true → ∃ xs : List (NestedKey × Addr × V), Rd vw.H p (DN w p xs) ∧ PV.toKs ks = some (xs.map (·.1)) ∧ (∀ x ∈ xs, x.1.depth ≤ 8) ∧ RelPs w K G vw.H vw.Z ks (xs.map fun x => V.ref x.2.1) ∧ RelPs w K G vw.H vw.Z us (xs.map (·.2.2)))
    (e : dGet nk ks us x = some o) : inRd w K G vw.H vw.Z v (.ref p) o.isSome := by
  unfold dGet at e
  cases nk with
  | false =>
    dsimp only at e
    split at e
    · rename_i j ej
      cases e
      obtain ⟨kvs, h1, rfl, h3⟩ := hf rfl
      refine .inr (.inr (.inl ⟨p, kvs, j, rfl, kV_kP h ej, h1, ?_⟩))
      have q := fFind_at (j := j) h3
      split at q
      · rename_i z ez
        obtain ⟨v, e1, _⟩ := q
        rw [ez, e1]; rfl
      · rename_i ez
        rw [ez, q]; rfl
    · cases e
  | true =>
    dsimp only at e
    split at e
    · rename_i zs
      split at e
      · rename_i j ej
        split at e
        · rename_i hd
          cases e
          obtain ⟨xs, h1, h2, h3, h4, h5⟩ := ht rfl
          rw [pFind_eq ej h2]
          exact .inr (.inr (.inr (.inl ⟨p, xs, ks, us, _, j, zs, rfl, h1, h2, h3, h4, h5, rfl, h, ej, hd, rfl⟩)))
        · cases e
      · cases e
    · cases e
theorem in_run (hu : X.A.units + 65 < cLine) {pins : List (Addr × Obj)} {s : Shared} {σ : SSt} {H : Hp} {Z : Addr → Prop} {x y : V} {v u : Value} {b : Bool} (I : Inv X pins σ H s) (rx : RelV x v) (ry : RelV y u) (h : inRd X.w X.K G H Z x y b) {Q : Value → Shared → Prop}
    (q : ∀ s', Inv X pins σ H s' → Q (.bool b) s') : wpAny (model X.prog X.w) X.A (compareOp .In v u) Q X.xe s := by
  have thn' : ∀ {r : R2}, OpR X (compareOp .In) r → r x y H (fun z H' => z = .bl b ∧ H' = H) → wpAny (model X.prog X.w) X.A (compareOp .In v u) Q X.xe s := fun {r} ho hr =>
    thn (ho pins s σ H x y v u _ I rx ry hr) fun c s' ⟨z, H', I', rz, ez, eh⟩ => by
      subst ez eh
      cases rz
      exact q s' I'
  rcases h with ⟨p, xs, rfl, hq, f1, f2, rfl⟩ | ⟨d, ds, h1, h2, h3, h4, rfl⟩ | ⟨p, kvs, k, rfl, rfl, h1, rfl⟩ | ⟨p, xs, ks, us, x', j, zs, rfl, h1, h2, h3, h4, h5, rfl, h6, h7, h8, rfl⟩ | ⟨c, z, rfl, rfl, rfl⟩
  · exact thn' op_in_seq ⟨p, xs, rfl, hq, f1, f2, rfl, rfl⟩
  · obtain ⟨as, r1⟩ := Dp.reads I d x v h1 rx
    rcases h2 with h2 | h2
    · obtain ⟨bs, r2⟩ := Dp.reads I _ y u h2 ry
      exact SeqAt.in_list_reads r2 r1 (by simpa [PyData.canLay0] using h4) (SeqAt.canLay_of_shaped h3) (room_in_shaped h3 hu) (q s I)
    · obtain ⟨bs, r2⟩ := Dp.reads I _ y u h2 ry
      exact SeqAt.in_tuple_reads r2 r1 (by simpa [PyData.canLay0] using h4) (SeqAt.canLay_of_shaped h3) (room_in_shaped h3 hu) (q s I)
  · cases ry
    exact d_in (by omega) I (.inl ⟨kvs, k, h1, rfl, rfl⟩) rx q
  · cases ry
    obtain ⟨e1, e2, ys, xv, hm⟩ := dn_at I h1 h2 h3 h4
    obtain ⟨a', vs', rfl, _⟩ := relTup.mp h6
    cases rx
    refine wpAny_in_heap (knd := nestedKind X.prog X.w) (k := j) (show X.A.in1.units + 8 < cLine from by show X.A.units + 1 + 8 < cLine; omega) ⟨RelP.nk I _ _ _ _ h6 rfl h7, h8⟩ e1 hm ?_
    have z := kFind_at (j := j) xv h5
    have fin : ∀ b', b' = (kFind (xs.map (·.1)) us j).isSome → Q (.bool b') { s with toks := s.toks + (nestedKind X.prog X.w).draws j } := fun b' e => by rw [e]; exact q _ (I.tok _)
    apply fin
    split at z
    · rename_i zz ez
      obtain ⟨p', v', ep, _⟩ := z
      rw [ez, ep]; rfl
    · rename_i ez
      rw [ez, z]; rfl
  · exact thn' op_in_sign ⟨c, z, rfl, rfl, rfl, rfl⟩
theorem notIn_run (hu : X.A.units + 65 < cLine) {pins : List (Addr × Obj)} {s : Shared} {σ : SSt} {H : Hp} {Z : Addr → Prop} {x y : V} {v u : Value} {b : Bool} (I : Inv X pins σ H s) (rx : RelV x v) (ry : RelV y u) (h : inRd X.w X.K G H Z x y b) {Q : Value → Shared → Prop}
    (q : ∀ s', Inv X pins σ H s' → Q (.bool (!b)) s') : wpAny (model X.prog X.w) X.A (compareOp .NotIn v u) Q X.xe s := by
  have thn' : ∀ {r : R2}, OpR X (compareOp .NotIn) r → r x y H (fun z H' => z = .bl (!b) ∧ H' = H) → wpAny (model X.prog X.w) X.A (compareOp .NotIn v u) Q X.xe s := fun {r} ho hr =>
    thn (ho pins s σ H x y v u _ I rx ry hr) fun c s' ⟨z, H', I', rz, ez, eh⟩ => by
      subst ez eh
      cases rz
      exact q s' I'
  rcases h with ⟨p, xs, rfl, hq, f1, f2, rfl⟩ | ⟨d, ds, h1, h2, h3, h4, rfl⟩ | ⟨p, kvs, k, rfl, rfl, h1, rfl⟩ | ⟨p, xs, ks, us, x', j, zs, rfl, h1, h2, h3, h4, h5, rfl, h6, h7, h8, rfl⟩ | ⟨c, z, rfl, rfl, rfl⟩
  · exact thn' op_notIn_seq ⟨p, xs, rfl, hq, f1, f2, rfl, rfl⟩
  · obtain ⟨as, r1⟩ := Dp.reads I d x v h1 rx
    rcases h2 with h2 | h2
    · obtain ⟨bs, r2⟩ := Dp.reads I _ y u h2 ry
      exact SeqAt.notIn_list_reads r2 r1 (by simpa [PyData.canLay0] using h4) (SeqAt.canLay_of_shaped h3) (room_in_shaped h3 hu) (q s I)
    · obtain ⟨bs, r2⟩ := Dp.reads I _ y u h2 ry
      exact SeqAt.notIn_tuple_reads r2 r1 (by simpa [PyData.canLay0] using h4) (SeqAt.canLay_of_shaped h3) (room_in_shaped h3 hu) (q s I)
  · cases ry
    exact d_notIn (by omega) I (.inl ⟨kvs, k, h1, rfl, rfl⟩) rx q
  · cases ry
    obtain ⟨e1, e2, ys, xv, hm⟩ := dn_at I h1 h2 h3 h4
    obtain ⟨a', vs', rfl, _⟩ := relTup.mp h6
    cases rx
    refine wpAny_notIn_heap (knd := nestedKind X.prog X.w) (k := j) (show X.A.in1.units + 8 < cLine from by show X.A.units + 1 + 8 < cLine; omega) ⟨RelP.nk I _ _ _ _ h6 rfl h7, h8⟩ e1 hm ?_
    have z := kFind_at (j := j) xv h5
    have fin : ∀ b', b' = (!(kFind (xs.map (·.1)) us j).isSome) → Q (.bool b') { s with toks := s.toks + (nestedKind X.prog X.w).draws j } := fun b' e => by rw [e]; exact q _ (I.tok _)
    apply fin
    split at z
    · rename_i zz ez
      obtain ⟨p', v', ep, _⟩ := z
      rw [ez, ep]; rfl
    · rename_i ez
      rw [ez, z]; rfl
  · exact thn' op_notIn_sign ⟨c, z, rfl, rfl, rfl, rfl⟩
theorem in_q {w : World} {K : PySem.W.Frag} {n : Bool} {x y : V} {H : Hp} {Q : VK} (h : q2s w K G (pIn n) x y H Q) : ∃ Z b, inRd w K G H Z x y b ∧ Q (.bl (b != n)) H := by
  obtain ⟨vw, a, b, z, eH, ok, ra, rb, e, q⟩ := h
  subst eH
  have fin : ∀ c, z = .bl (c != n) → Q (.bl (c != n)) vw.H := fun c ez => q vw _ .rfl' ok rfl (by rw [ez]; exact relBl.mpr rfl)
  refine ⟨vw.Z, ?_⟩
  unfold pIn at e
  split at e
  · rename_i x' y'
    obtain ⟨c, ec, rfl⟩ := Option.map_eq_some_iff.mp e
    refine ⟨c, ?_, fin c rfl⟩
    replace ra : RelP w K G vw.H vw.Z x' x := ra
    replace rb : RelP w K G vw.H vw.Z y' y := rb
    unfold pInP at ec
    split at ec
    · obtain ⟨p, vs, rfl, _, hp, l, r⟩ := relLst.mp rb
      exact inL_rd ra (.inl (.of hp)) r ec
    · obtain ⟨p, vs, rfl, hp, l, r⟩ := relTup.mp rb
      exact inL_rd ra (.inr hp) r ec
    · rename_i nk ks us
      obtain ⟨o, eo, rfl⟩ := Option.map_eq_some_iff.mp ec
      cases nk with
      | false =>
        rw [RelP] at rb
        obtain ⟨p, rfl, _, kvs, h1, h2, h3⟩ := rb
        exact dct_rd (nk := false) ra (fun _ => ⟨kvs, h1.rd, h2, h3⟩) (fun z => nomatch z) eo
      | true =>
        rw [RelP] at rb
        obtain ⟨p, rfl, _, xs, h1, h2, h3, h4, h5⟩ := rb
        exact dct_rd (nk := true) ra (fun z => nomatch z) (fun _ => ⟨xs, h1.rd, h2, h3, h4, h5⟩) eo
    · split at ec
      · rename_i yy
        split at ec
        · rename_i cc ecc
          cases ec
          rw [relStr] at ra rb
          refine .inr (.inr (.inr (.inr ⟨cc, _, ?_, rb, rfl⟩)))
          rw [ra]
          obtain ⟨⟨l⟩⟩ := yy
          have : l = [cc] := ecc
          rw [this]
        · cases ec
      · cases ec
    · cases ec
  · rename_i x' m
    replace ra : RelP w K G vw.H vw.Z x' x := ra
    obtain ⟨_, rfl⟩ := rb
    split at e
    · rename_i lk ys es
      obtain ⟨c, ec, rfl⟩ := Option.map_eq_some_iff.mp e
      refine ⟨c, ?_, fin c rfl⟩
      obtain ⟨vs, h1, h2, h3⟩ := ok.ob m _ es
      exact inL_rd ra (.inl (.of h1)) h3 ec
    · rename_i nk lk ks us es
      obtain ⟨o, eo, rfl⟩ := Option.map_eq_some_iff.mp e
      refine ⟨o.isSome, ?_, fin _ rfl⟩
      have hob := ok.ob m _ es
      have rdl : ∀ {u : HO}, Lk vw.H (vw.al m) u lk → Rd vw.H (vw.al m) u := fun {u} h => by
        cases lk with
        | true => exact .inr h
        | false => exact .inl h
      cases nk with
      | false =>
        obtain ⟨kvs, h1, h2, h3⟩ := hob
        exact dct_rd (nk := false) ra (fun _ => ⟨kvs, rdl h1, h2, h3⟩) (fun z => nomatch z) eo
      | true =>
        obtain ⟨xs, h1, h2, h3, h4, h5⟩ := hob
        exact dct_rd (nk := true) ra (fun z => nomatch z) (fun _ => ⟨xs, rdl h1, h2, h3, h4, h5⟩) eo
    · cases e
  · cases e
theorem opx_in (hu : X.A.units + 65 < cLine) : OpR X (compareOp .In) (q2s X.w X.K G (pIn false)) := fun pins s σ H x y v u Q I rx ry h => by
  obtain ⟨Z, b, hb, q⟩ := in_q h
  exact in_run hu I rx ry hb fun s' I' => ⟨.bl b, H, I', rfl, by rw [Bool.bne_false] at q; exact q⟩
theorem opx_notin (hu : X.A.units + 65 < cLine) : OpR X (compareOp .NotIn) (q2s X.w X.K G (pIn true)) := fun pins s σ H x y v u Q I rx ry h => by
  obtain ⟨Z, b, hb, q⟩ := in_q h
  exact notIn_run hu I rx ry hb fun s' I' => ⟨.bl (!b), H, I', rfl, by rw [Bool.bne_true] at q; exact q⟩
end
end Ev
end S_Ev4
section S_Ev5
namespace Ev
open PySem PySem.Spec PyProof.Rows L2
section
variable {X : Cx} {G : Nat → Addr} {E : WE} {pos : Pos} {a b c : Expr} {ra rb rc : RX}
theorem RelVV.int {w : World} {K : PySem.W.Frag} {vw : Vw} {i : Int} {v : V} (h : RelVV w K G vw (.p (.int i)) v) : v = .int i := relInt.mp (show RelP w K G vw.H vw.Z (.int i) v from h)
theorem RelVV.str {w : World} {K : PySem.W.Frag} {vw : Vw} {i : Str} {v : V} (h : RelVV w K G vw (.p (.str i)) v) : v = .str i := relStr.mp (show RelP w K G vw.H vw.Z (.str i) v from h)
theorem RelVV.bl {w : World} {K : PySem.W.Frag} {vw : Vw} {i : Bool} {v : V} (h : RelVV w K G vw (.p (.bl i)) v) : v = .bl i := relBl.mp (show RelP w K G vw.H vw.Z (.bl i) v from h)
theorem vvInt {w : World} {K : PySem.W.Frag} {vw : Vw} {i : Int} : RelVV w K G vw (.p (.int i)) (.int i) := show RelP w K G vw.H vw.Z (.int i) (.int i) from relInt.mpr rfl
theorem vvBl {w : World} {K : PySem.W.Frag} {vw : Vw} {i : Bool} : RelVV w K G vw (.p (.bl i)) (.bl i) := show RelP w K G vw.H vw.Z (.bl i) (.bl i) from relBl.mpr rfl
theorem vvNon {w : World} {K : PySem.W.Frag} {vw : Vw} : RelVV w K G vw (.p .non) .non := show RelP w K G vw.H vw.Z .non .non from relNon.mpr rfl
theorem vvStr {w : World} {K : PySem.W.Frag} {vw : Vw} {i : Str} : RelVV w K G vw (.p (.str i)) (.str i) := show RelP w K G vw.H vw.Z (.str i) (.str i) from relStr.mpr rfl
/-! ### subscripts -/
def pIx (st : Sto) : VV → VV → Option PV
  | .p (.tup xs), .p (.int i) => atI xs i
  | .p (.lst xs), .p (.int i) => atI xs i
  | .p (.lsf xs), .p (.int i) => atI xs i
  | .p (.str z), .p (.int i) => if z.length ≤ 16777216 then (atI z.cps.toList i).map fun c => .str ⟨#[c]⟩ else none
  | .p (.dct nk ks us), .p k => (dGet nk ks us k).bind id
  | .ref m, .p k => (match st[m]?, k with
    | some (some (.lst _ xs)), .int i => atI xs i
    | some (some (.dct nk _ ks us)), k => (dGet nk ks us k).bind id
    | _, _ => none)
  | _, _ => none
theorem atI_rel {w : World} {K : PySem.W.Frag} {H : Hp} {Z : Addr → Prop} {xs : List PV} {vs : List V} {i : Int} {z : PV} (h : RelPs w K G H Z xs vs) (e : atI xs i = some z) : ∃ v, atI vs i = some v ∧ RelP w K G H Z z v := by
  unfold atI at e ⊢
  rw [← h.len]
  obtain ⟨j, e1, e2⟩ := Option.bind_eq_some_iff.mp e
  obtain ⟨v, e3, r⟩ := h.get e2
  exact ⟨v, by rw [e1]; exact e3, r⟩
/-- what stands at a key -/
def getRd (w : World) (K : PySem.W.Frag) (G : Nat → Addr) (H : Hp) (Z : Addr → Prop) (x y : V) (z : PV) : Prop :=
  (∃ p kvs k v, x = .ref p ∧ y = kV k ∧ Rd H p (.dK kvs) ∧ valV kvs k = some v ∧ RelP w K G H Z z v) ∨
  (∃ p xs ks us y' j zs, x = .ref p ∧ Rd H p (DN w p xs) ∧ PV.toKs ks = some (xs.map (·.1)) ∧ (∀ x ∈ xs, x.1.depth ≤ 8) ∧ RelPs w K G H Z ks (xs.map fun x => V.ref x.2.1) ∧ RelPs w K G H Z us (xs.map (·.2.2)) ∧
    y' = PV.tup zs ∧ RelP w K G H Z y' y ∧ y'.toK = some j ∧ j.depth ≤ 8 ∧ kFind (xs.map (·.1)) us j = some z)
theorem get_rd {w : World} {K : PySem.W.Frag} {vw : Vw} {x : PV} {v : V} {nk : Bool} {ks us : List PV} {z : PV} {p : Addr} (h : RelP w K G vw.H vw.Z x v)
    (hf : nk = false → ∃ kvs : List (Key × V), Rd vw.H p (.dK kvs) ∧ ks = kvs.map (fun kv => kP kv.1) ∧ RelPs w K G vw.H vw.Z us (kvs.map (·.2)))
    (ht : nk = true → ∃ xs : List (NestedKey × Addr × V), Rd vw.H p (DN w p xs) ∧ PV.toKs ks = some (xs.map (·.1)) ∧ (∀ x ∈ xs, x.1.depth ≤ 8) ∧ RelPs w K G vw.H vw.Z ks (xs.map fun x => V.ref x.2.1) ∧ RelPs w K G vw.H vw.Z us (xs.map (·.2.2)))
    (e : (dGet nk ks us x).bind id = some z) : getRd w K G vw.H vw.Z (.ref p) v z := by
  unfold dGet at e
  cases nk with
  | false =>
    dsimp only at e
    split at e
    · rename_i j ej
      have e : fFind ks us j = some z := e
      obtain ⟨kvs, h1, rfl, h3⟩ := hf rfl
      have q := fFind_at (j := j) h3
      rw [e] at q
      obtain ⟨u, e1, r⟩ := q
      exact .inl ⟨p, kvs, j, u, rfl, kV_kP h ej, h1, e1, r⟩
    · cases e
  | true =>
    dsimp only at e
    split at e
    · rename_i zs
      split at e
      · rename_i j ej
        split at e
        · rename_i hd
          obtain ⟨xs, h1, h2, h3, h4, h5⟩ := ht rfl
          have e : pFind ks us (.tup zs) = some z := e
          rw [pFind_eq ej h2] at e
          exact .inr ⟨p, xs, ks, us, _, j, zs, rfl, h1, h2, h3, h4, h5, rfl, h, ej, hd, e⟩
        · cases e
      · cases e
    · cases e
theorem get_run (hu : X.A.units + 65 < cLine) {pins : List (Addr × Obj)} {s : Shared} {σ : SSt} {H : Hp} {Z : Addr → Prop} {x y : V} {v u : Value} {z : PV} (I : Inv X pins σ H s) (rx : RelV x v) (ry : RelV y u) (h : getRd X.w X.K G H Z x y z) {Q : Value → Shared → Prop}
    (q : ∀ c c' s', Inv X pins σ H s' → RelV c c' → RelP X.w X.K G H Z z c → Q c' s') : ∃ p, v = .ref p ∧ s.TypeIs v "dict" ∧ wpAny (model X.prog X.w) X.A (getItem v u) Q X.xe s := by
  rcases h with ⟨p, kvs, k, c, rfl, rfl, h1, h2, h3⟩ | ⟨p, xs, ks, us, y', j, zs, rfl, h1, h2, h3, h4, h5, rfl, h6, h7, h8, h9⟩
  · cases rx
    have g : DGet H p (kV k) (some c) := .inl ⟨kvs, k, h1, rfl, h2.symm⟩
    exact ⟨p, rfl, dict_typeIs I g, d_getItem (by omega) I g ry fun w' s' I' r => q c w' s' I' r h3⟩
  · cases rx
    obtain ⟨e1, e2, ys, xv, hm⟩ := dn_at I h1 h2 h3 h4
    obtain ⟨a', vs', rfl, _⟩ := relTup.mp h6
    cases ry
    have zz := kFind_at (j := j) xv h5
    rw [h9] at zz
    obtain ⟨p', v', ep, r1, r2⟩ := zz
    exact ⟨p, rfl, hm.typeIs, wpAny_getItem_heap (knd := nestedKind X.prog X.w) (k := j) (show X.A.in1.units + 8 < cLine from by show X.A.units + 1 + 8 < cLine; omega) ⟨RelP.nk I _ _ _ _ h6 rfl h7, h8⟩ hm ep (q _ _ _ (I.tok _) r1 r2)⟩
theorem ixx (hu : X.A.units + 65 < cLine) : IxR X (q2s X.w X.K G pIx) := by
  intro value slice pins s σ H x y v u Q I rx ry h hs
  obtain ⟨vw, a, b, z, eH, ok, ra, rb, e, q⟩ := h
  subst eH
  have fin : ∀ {c : V}, RelP X.w X.K G vw.H vw.Z z c → Q c vw.H := fun r => q vw _ .rfl' ok rfl r
  have dct : getRd X.w X.K G vw.H vw.Z x y z → wpAny (model X.prog X.w) X.A (subscriptTail value slice v u) (EP X pins σ Q) X.xe s := fun g => by
    obtain ⟨p, rfl, ty, g⟩ := get_run hu I rx ry g (Q := EP X pins σ Q) fun c c' s' I' r1 r2 => ⟨c, vw.H, I', r1, fin r2⟩
    exact tail_any ty PySem.F.slot_dict_getitem.lookup g hs
  unfold pIx at e
  split at e
  · obtain ⟨p, vs, rfl, hp, l, r⟩ := relTup.mp ra
    have rb := RelVV.int rb
    subst rb
    obtain ⟨c, e1, r1⟩ := atI_rel r e
    exact ix_tup value slice pins s σ vw.H _ _ v u Q I rx ry ⟨p, vs, _, c, rfl, rfl, hp, e1, fin r1⟩ hs
  · obtain ⟨p, vs, rfl, _, hp, l, r⟩ := relLst.mp ra
    have rb := RelVV.int rb
    subst rb
    obtain ⟨c, e1, r1⟩ := atI_rel r e
    exact ix_list value slice pins s σ vw.H _ _ v u Q I rx ry ⟨p, vs, _, c, rfl, rfl, .of hp, e1, fin r1⟩ hs
  · obtain ⟨p, vs, rfl, hp, l, r⟩ := relLsf.mp ra
    have rb := RelVV.int rb
    subst rb
    obtain ⟨c, e1, r1⟩ := atI_rel r e
    exact ix_list value slice pins s σ vw.H _ _ v u Q I rx ry ⟨p, vs, _, c, rfl, rfl, hp.sq, e1, fin r1⟩ hs
  · have rb := RelVV.int rb
    have ra := RelVV.str ra
    subst rb ra
    split at e
    · rename_i hl
      obtain ⟨c, e1, rfl⟩ := Option.map_eq_some_iff.mp e
      exact ix_str value slice pins s σ vw.H _ _ v u Q I rx ry ⟨_, _, c, rfl, rfl, by rw [sizeLine_eq]; exact hl, e1, fin (relStr.mpr rfl)⟩ hs
    · cases e
  · rename_i nk ks us k
    replace ra : RelP X.w X.K G vw.H vw.Z (.dct nk ks us) x := ra
    replace rb : RelP X.w X.K G vw.H vw.Z k y := rb
    refine dct ?_
    cases nk with
    | false =>
      rw [RelP] at ra
      obtain ⟨p, rfl, _, kvs, h1, h2, h3⟩ := ra
      exact get_rd (nk := false) rb (fun _ => ⟨kvs, h1.rd, h2, h3⟩) (fun z => nomatch z) e
    | true =>
      rw [RelP] at ra
      obtain ⟨p, rfl, _, xs, h1, h2, h3, h4, h5⟩ := ra
      exact get_rd (nk := true) rb (fun z => nomatch z) (fun _ => ⟨xs, h1.rd, h2, h3, h4, h5⟩) e
  · rename_i m k
    obtain ⟨_, rfl⟩ := ra
    replace rb : RelP X.w X.K G vw.H vw.Z k y := rb
    split at e
    · rename_i lk xs i es
      rw [relInt] at rb
      subst rb
      obtain ⟨vs, h1, h2, h3⟩ := ok.ob m _ es
      obtain ⟨c, e1, r1⟩ := atI_rel h3 e
      exact ix_list value slice pins s σ vw.H _ _ v u Q I rx ry ⟨_, vs, _, c, rfl, rfl, .of h1, e1, fin r1⟩ hs
    · rename_i nk lk ks us es
      have hob := ok.ob m _ es
      have rdl : ∀ {u : HO}, Lk vw.H (vw.al m) u lk → Rd vw.H (vw.al m) u := fun {u} h => by
        cases lk with
        | true => exact .inr h
        | false => exact .inl h
      refine dct ?_
      cases nk with
      | false =>
        obtain ⟨kvs, h1, h2, h3⟩ := hob
        exact get_rd (nk := false) rb (fun _ => ⟨kvs, rdl h1, h2, h3⟩) (fun z => nomatch z) e
      | true =>
        obtain ⟨xs, h1, h2, h3, h4, h5⟩ := hob
        exact get_rd (nk := true) rb (fun z => nomatch z) (fun _ => ⟨xs, rdl h1, h2, h3, h4, h5⟩) e
    · cases e
  · cases e
theorem px_ix (hu : X.A.units + 65 < cLine) (ha : PX X G E a ra) (hb : PX X G E b rb) (hs : PlainIx b) : PX X G E (.Subscript a b pos) (r2s pIx ra rb) :=
  (pe_ix (ixx hu) ha hb hs).weak fun σ H Q h => bin_reads h
/-! ### slices -/
abbrev RO := EE → Sto → Res (Option Int)
def tO (w : World) (K : PySem.W.Frag) (G : Nat → Addr) (E : WE) (r : RO) : TO := fun σ H Q => ∃ vw env, vw.H = H ∧ VOk w K G vw ∧ RepE w K G vw env σ ∧
  GQ w K G vw (fun vw' => E vw' env) (r env vw.st) fun vw' x => Q x vw'.H
abbrev PXO (X : Cx) (G : Nat → Addr) (E : WE) (e : Option Expr) (r : RO) : Prop := PO X e (tO X.w X.K G E r)
theorem _root_.L2.PO.weak {e : Option Expr} {t t' : TO} (h : PO X e t) (f : ∀ σ H Q, t' σ H Q → t σ H Q) : PO X e t' := by
  obtain ⟨h⟩ := h
  constructor
  intro pins s σ H Q I q
  exact h pins s σ H Q I (f σ H Q q)
def rNoPart : RO := fun _ st => .ok none st
def rPart (r : RX) : RO := fun env st => (r env st).bind fun x st1 => match x with
  | .p (.int i) => .ok (some i) st1
  | _ => .no
theorem pxo_none : PXO X G E none rNoPart := po_none.weak fun σ H Q ⟨vw, env, eH, ok, re, q⟩ => by
  subst eH
  exact q vw .rfl' ok rfl
theorem pxo_some (h : PX X G E a ra) : PXO X G E (some a) (rPart ra) := (po_some h).weak fun σ H Q ⟨vw, env, eH, ok, re, q⟩ => by
  refine ⟨vw, env, eH, ok, re, (GQ.bind q).imp fun vw1 x l1 ok1 q1 v1 r1 => ?_⟩
  split at q1
  · rw [RelVV.int r1]
    exact ⟨_, rfl, q1 vw1 .rfl' ok1 rfl⟩
  · exact q1.elim
def cutP (xs : List PV) (lo hi : Option Int) : List PV := (xs.drop (HT.sIx xs.length 0 lo)).take (HT.sIx xs.length xs.length hi - HT.sIx xs.length 0 lo)
def pSl (x : PV) (lo hi : Option Int) : Option PV := match x with
  | .tup xs => some (.tup (cutP xs lo hi))
  | .lst xs => some (.lst (cutP xs lo hi))
  | _ => none
theorem cut_rel {w : World} {K : PySem.W.Frag} {H : Hp} {Z : Addr → Prop} {xs : List PV} {vs : List V} {lo hi : Option Int} (h : RelPs w K G H Z xs vs) : RelPs w K G H Z (cutP xs lo hi) (cutV vs lo hi) := by
  unfold cutP cutV
  rw [← h.len]
  exact (h.drop _).take _
theorem cut_whole {xs : List PV} {lo hi : Option Int} (h : HT.sIx xs.length 0 lo = 0 ∧ HT.sIx xs.length xs.length hi = xs.length) : cutP xs lo hi = xs := by
  unfold cutP
  rw [h.1, h.2]
  simp
def q3 (w : World) (K : PySem.W.Frag) (G : Nat → Addr) : V → Option Int → Option Int → Hp → VK → Prop := fun x lo hi H Q => ∃ vw a z, vw.H = H ∧ VOk w K G vw ∧ RelP w K G vw.H vw.Z a x ∧ pSl a lo hi = some z ∧
  ∀ vw' v, Le K vw vw' → VOk w K G vw' → vw'.st = vw.st → RelP w K G vw'.H vw'.Z z v → Q v vw'.H
theorem slx : SlR X (q3 X.w X.K G) := by
  intro pins s σ H x v vl vu lo hi sl Q I rx hs pl pu h
  obtain ⟨vw, a, z, eH, ok, ra, e, q⟩ := h
  subst eH
  unfold pSl at e
  split at e
  · rename_i xs
    cases e
    obtain ⟨p, vs, rfl, hp, l, r⟩ := relTup.mp ra
    refine sl_tupA pins s σ vw.H _ v vl vu lo hi sl Q I rx hs pl pu ⟨p, vs, rfl, hp, fun hw => ?_, fun hw u hu => ?_⟩
    · rw [cut_whole (by rw [r.len]; exact hw)] at q
      exact q vw _ .rfl' ok rfl ra
    · obtain ⟨vw', eh, l', o, es, r'⟩ := mkTup ok hu (Nat.le_trans (cutV_length _ _ _) l) (cut_rel (lo := lo) (hi := hi) r)
      rw [← eh]
      exact q vw' _ l' o es r'
  · rename_i xs
    cases e
    obtain ⟨p, vs, rfl, _, hp, l, r⟩ := relLst.mp ra
    refine sl_list pins s σ vw.H _ v vl vu lo hi sl Q I rx hs pl pu ⟨p, vs, rfl, .of hp, fun u hu => ?_⟩
    obtain ⟨vw', eh, l', o, es, r'⟩ := mkLst ok hu (Nat.le_trans (cutV_length _ _ _) l) (cut_rel (lo := lo) (hi := hi) r)
    rw [← eh]
    exact q vw' _ l' o es r'
  · cases e
def rSl (ra : RX) (rl rh : RO) : RX := fun env st => (ra env st).bind fun x st1 => (rl env st1).bind fun l st2 => (rh env st2).bind fun h st3 => match x with
  | .p a => (match pSl a l h with
    | some z => .ok (.p z) st3
    | none => .no)
  | _ => .no
theorem px_sl {lo hi : Option Expr} {rl rh : RO} {p2 : Pos} (ha : PX X G E a ra) (hl : PXO X G E lo rl) (hh : PXO X G E hi rh) : PX X G E (.Subscript a (.Slice lo hi none p2) pos) (rSl ra rl rh) :=
  (pe_slice slx ha hl hh).weak fun σ H Q ⟨vw, env, eH, ok, re, q⟩ => by
    refine ⟨vw, env, eH, ok, re, (GQ.bind q).imp fun vw1 x l1 ok1 q1 v1 r1 => ?_⟩
    refine ⟨vw1, env, rfl, ok1, re.mono l1, (GQ.bind q1).imp fun vw2 y l2 ok2 q2 => ?_⟩
    refine ⟨vw2, env, rfl, ok2, (re.mono l1).mono l2, (GQ.bind q2).imp fun vw3 z l3 ok3 q3 => ?_⟩
    cases x with
    | ref n => exact q3.elim
    | p x =>
      dsimp only at q3
      split at q3
      · rename_i z' ez
        exact ⟨vw3, x, z', rfl, ok3, l3.p (l2.p r1), ez, fun vw' v l o e r => q3 vw' l o e v r⟩
      · exact q3.elim
/-! ### argument lists, displays -/
def rNil : RA := fun _ st => .ok [] st
def rCons (r : RX) (t : RA) : RA := fun env st => (r env st).bind fun x st1 => (t env st1).bind fun xs st2 => .ok (x :: xs) st2
theorem pxa_nil : PXA X G E [] rNil := pa_nil.weak fun σ H Q ⟨vw, env, eH, ok, re, q⟩ => by
  subst eH
  exact q vw .rfl' ok rfl [] rfl
theorem pxa_cons {e : Expr} {es : List Expr} {r : RX} {t : RA} (ha : PX X G E e r) (ht : PXA X G E es t) (hs : starEach (e :: es) X.env = (false, eval e X.env) :: starEach es X.env := by rfl) : PXA X G E (e :: es) (rCons r t) :=
  (pa_cons ha ht hs).weak fun σ H Q ⟨vw, env, eH, ok, re, q⟩ => by
    refine ⟨vw, env, eH, ok, re, (GQ.bind q).imp fun vw1 x l1 ok1 q1 v1 r1 => ?_⟩
    refine ⟨vw1, env, rfl, ok1, re.mono l1, (GQ.bind q1).imp fun vw2 y l2 ok2 q2 vs rs => ?_⟩
    exact q2 vw2 .rfl' ok2 rfl (v1 :: vs) ⟨v1, vs, rfl, l2.v r1, rs⟩
def toPs : List VV → Option (List PV)
  | [] => some []
  | .p x :: xs => (toPs xs).map (x :: ·)
  | .ref _ :: _ => none
theorem toPs_rel {w : World} {K : PySem.W.Frag} {vw : Vw} : ∀ {xs : List VV} {vs : List V} {ys : List PV}, RelVs w K G vw xs vs → toPs xs = some ys → RelPs w K G vw.H vw.Z ys vs
  | [], vs, ys, h, e => by
    cases e
    rw [show vs = [] from h]
    exact RelPs.nil
  | .p x :: xs, vs, ys, h, e => by
    obtain ⟨v, r, rfl, h1, h2⟩ := h
    obtain ⟨zs, e1, rfl⟩ := Option.map_eq_some_iff.mp e
    exact RelPs.cons h1 (toPs_rel h2 e1)
  | .ref n :: xs, vs, ys, h, e => by cases e
def rTup (t : RA) : RX := fun env st => (t env st).bind fun xs st1 => match toPs xs with
  | some ys => if ys.length ≤ 16777216 then .ok (.p (.tup ys)) st1 else .no
  | none => .no
def rLst (t : RA) : RX := fun env st => (t env st).bind fun xs st1 => match toPs xs with
  | some ys => if ys.length ≤ 16777216 then .ok (.p (.lst ys)) st1 else .no
  | none => .no
/-- a list that will be changed: an object of the store -/
def rLstM (t : RA) : RX := fun env st => (t env st).bind fun xs st1 => match toPs xs with
  | some ys => if ys.length ≤ 16777216 then .ok (.ref st1.length) (st1 ++ [some (.lst false ys)]) else .no
  | none => .no
theorem px_tup {es : List Expr} {t : RA} {x1} (h : PXA X G E es t) : PX X G E (.Tuple es x1 pos) (rTup t) := (pe_tup h).weak fun σ H Q ⟨vw, env, eH, ok, re, q⟩ => by
  refine ⟨vw, env, eH, ok, re, (GQ.bind q).imp fun vw1 x l1 ok1 q1 vs rs => ?_⟩
  split at q1
  · rename_i ys ey
    split at q1
    · rename_i hl
      have r := toPs_rel rs ey
      have hz : vs.length ≤ sizeLine := by rw [sizeLine_eq, ← r.len]; exact hl
      refine ⟨hz, fun p hp => ?_⟩
      obtain ⟨vw', eh, l', o, es, r'⟩ := mkTup ok1 hp hz r
      rw [← eh]
      exact q1 vw' l' o es _ r'
    · exact q1.elim
  · exact q1.elim
theorem px_lst {es : List Expr} {t : RA} (h : PXA X G E es t) : PX X G E (.List es pos) (rLst t) := (pe_lst h).weak fun σ H Q ⟨vw, env, eH, ok, re, q⟩ => by
  refine ⟨vw, env, eH, ok, re, (GQ.bind q).imp fun vw1 x l1 ok1 q1 vs rs => ?_⟩
  split at q1
  · rename_i ys ey
    split at q1
    · rename_i hl
      have r := toPs_rel rs ey
      have hz : vs.length ≤ sizeLine := by rw [sizeLine_eq, ← r.len]; exact hl
      refine ⟨hz, fun p hp => ?_⟩
      obtain ⟨vw', eh, l', o, es, r'⟩ := mkLst ok1 hp hz r
      rw [← eh]
      exact q1 vw' l' o es _ r'
    · exact q1.elim
  · exact q1.elim
/-- a fresh address is not in Z -/
def ZOk (w : World) (vw : Vw) : Prop := ∀ a, vw.Z a → vw.H a ≠ none
end
end Ev
end S_Ev5
section S_Ev6
namespace Ev
open PySem PySem.Spec PyProof.Rows L2
section
variable {X : Cx} {G : Nat → Addr} {E : WE} {pos : Pos} {a b c : Expr} {ra rb rc : RX} {ta tb : RT}
/-! ### tests -/
def rTst (r : RX) : RT := fun env st => (r env st).bind fun x st1 => match x with
  | .p (.bl b) => .ok b st1
  | _ => .no
theorem tst_read {w : World} {K : PySem.W.Frag} {σ : SSt} {H : Hp} {Q : Bool → Hp → Prop} (h : tT w K G E (rTst ra) σ H Q) : tE w K G E ra σ H fun x H1 => ∃ k, x = .bl k ∧ Q k H1 := by
  obtain ⟨vw, env, eH, ok, re, q⟩ := h
  refine ⟨vw, env, eH, ok, re, (GQ.bind q).imp fun vw1 x l1 ok1 q1 v1 r1 => ?_⟩
  split at q1
  · exact ⟨_, RelVV.bl r1, q1 vw1 .rfl' ok1 rfl⟩
  · exact q1.elim
/-- a value that is a truth value, as a test -/
theorem pxt_val (h : PX X G E a ra) (he : ∀ whole, isTrue a X.env whole = (do let v ← whole; standAt a.pos; holding [v] (truthy v)) := by intro _; rfl) : PXT X G E a (rTst ra) :=
  (pt_val h he).weak fun σ H Q h => tst_read h
theorem pxt_cmp {op : CmpOp} {p : PV → PV → Option PV} (ho : OpR X (compareOp op) (q2 X.w X.K G p)) (ha : PX X G E a ra) (hb : PX X G E b rb) (hm : behindInMarks op b = false) : PXT X G E (.Compare a [op] [b] pos) (rTst (r2 p ra rb)) :=
  (pt_cmpR ho ha hb hm).weak fun σ H Q h => bin_read (tst_read h)
theorem pxt_cmps {op : CmpOp} {p : Sto → VV → VV → Option PV} (ho : OpR X (compareOp op) (q2s X.w X.K G p)) (ha : PX X G E a ra) (hb : PX X G E b rb) (hm : behindInMarks op b = false) : PXT X G E (.Compare a [op] [b] pos) (rTst (r2s p ra rb)) :=
  (pt_cmpR ho ha hb hm).weak fun σ H Q h => bin_reads (tst_read h)
/-- a op b op' c -/
def rCh (p p' : PV → PV → Option PV) (ra rb rc : RX) : RX := fun env st => (ra env st).bind fun x st1 => (rb env st1).bind fun y st2 => match x, y with
  | .p x, .p y => (match p x y with
    | some (.bl true) => (rc env st2).bind fun z st3 => (match z with
      | .p z => (match p' y z with
        | some u => .ok (.p u) st3
        | none => .no)
      | _ => .no)
    | some (.bl false) => .ok (.p (.bl false)) st2
    | _ => .no)
  | _, _ => .no
theorem ch_read {w : World} {K : PySem.W.Frag} {p p' : PV → PV → Option PV} {σ : SSt} {H : Hp} {Q : VK} (h : tE w K G E (rCh p p' ra rb rc) σ H Q) :
    tChain (q2 w K G p) (q2 w K G p') (tE w K G E ra) (tE w K G E rb) (tE w K G E rc) σ H Q := by
  obtain ⟨vw, env, eH, ok, re, q⟩ := h
  refine ⟨vw, env, eH, ok, re, (GQ.bind q).imp fun vw1 x l1 ok1 q1 v1 r1 => ?_⟩
  refine ⟨vw1, env, rfl, ok1, re.mono l1, (GQ.bind q1).imp fun vw2 y l2 ok2 q2 v2 rv2 => ?_⟩
  have re2 := (re.mono l1).mono l2
  cases x with
  | ref n => exact q2.elim
  | p x =>
    cases y with
    | ref n => exact q2.elim
    | p y =>
      dsimp only at q2
      split at q2
      · rename_i ez
        refine ⟨vw2, x, y, _, rfl, ok2, l2.p r1, rv2, ez, fun vw3 v l3 ok3 es r3 => ⟨true, relBl.mp r3, ?_⟩⟩
        rw [if_pos rfl]
        rw [← es] at q2
        refine ⟨vw3, env, rfl, ok3, re2.mono l3, (GQ.bind (GQ.back l3 q2)).imp fun vw4 z l4 ok4 q4 v4 r4 => ?_⟩
        cases z with
        | ref n => exact q4.elim
        | p z =>
          dsimp only at q4
          split at q4
          · rename_i u eu
            exact ⟨vw4, y, z, u, rfl, ok4, l4.p (l3.p rv2), r4, eu, fun vw' v l o e r => q4 vw' l o e v r⟩
          · exact q4.elim
      · rename_i ez
        refine ⟨vw2, x, y, _, rfl, ok2, l2.p r1, rv2, ez, fun vw3 v l3 ok3 es r3 => ⟨false, relBl.mp r3, ?_⟩⟩
        rw [if_neg Bool.false_ne_true]
        exact q2 vw3 l3 ok3 es _ vvBl
      · exact q2.elim
theorem px_ch {op op' : CmpOp} {p p' : PV → PV → Option PV} (ho : OpR X (compareOp op) (q2 X.w X.K G p)) (ho' : OpR X (compareOp op') (q2 X.w X.K G p')) (ha : PX X G E a ra) (hb : PX X G E b rb) (hc : PX X G E c rc)
    (hm : lastMarks [op, op'] [b, c] = false := by with_unfolding_all rfl) : PX X G E (.Compare a [op, op'] [b, c] pos) (rCh p p' ra rb rc) := (pe_chain ho ho' ha hb hc hm).weak fun σ H Q h => ch_read h
theorem pxt_ch {op op' : CmpOp} {p p' : PV → PV → Option PV} (ho : OpR X (compareOp op) (q2 X.w X.K G p)) (ho' : OpR X (compareOp op') (q2 X.w X.K G p')) (ha : PX X G E a ra) (hb : PX X G E b rb) (hc : PX X G E c rc)
    (hm : lastMarks [op, op'] [b, c] = false := by with_unfolding_all rfl) : PXT X G E (.Compare a [op, op'] [b, c] pos) (rTst (rCh p p' ra rb rc)) := (pt_chain ho ho' ha hb hc hm).weak fun σ H Q h => ch_read (tst_read h)
/-! ### and, or, not, if else -/
def rAnd (s t : RT) : RT := fun env st => (s env st).bind fun x st1 => if x = true then t env st1 else .ok false st1
def rOr (s t : RT) : RT := fun env st => (s env st).bind fun x st1 => if x = true then .ok true st1 else t env st1
def rNot (s : RT) : RT := fun env st => (s env st).bind fun x st1 => .ok (!x) st1
abbrev PXW (X : Cx) (G : Nat → Addr) (E : WE) (e : Expr) (r : RT) : Prop := PW X e (tT X.w X.K G E r)
variable {rest : List Expr}
theorem pxw_and1 (ha : PXT X G E a ta) : PXW X G E (.BoolOp .And [a] pos) ta := pw_and1 ha
theorem pxw_or1 (ha : PXT X G E a ta) : PXW X G E (.BoolOp .Or [a] pos) ta := pw_or1 ha
theorem pxw_and (ha : PXT X G E a ta) (hb : PXW X G E (.BoolOp .And (b :: rest) pos) tb) : PXW X G E (.BoolOp .And (a :: b :: rest) pos) (rAnd ta tb) := (pw_and ha hb).weak fun σ H Q ⟨vw, env, eH, ok, re, q⟩ => by
  refine ⟨vw, env, eH, ok, re, (GQ.bind q).imp fun vw1 x l1 ok1 q1 => ?_⟩
  split at q1
  · rename_i h
    rw [if_pos h]
    exact ⟨vw1, env, rfl, ok1, re.mono l1, q1⟩
  · rename_i h
    rw [if_neg h]
    exact q1 vw1 .rfl' ok1 rfl
theorem pxw_or (ha : PXT X G E a ta) (hb : PXW X G E (.BoolOp .Or (b :: rest) pos) tb) : PXW X G E (.BoolOp .Or (a :: b :: rest) pos) (rOr ta tb) := (pw_or ha hb).weak fun σ H Q ⟨vw, env, eH, ok, re, q⟩ => by
  refine ⟨vw, env, eH, ok, re, (GQ.bind q).imp fun vw1 x l1 ok1 q1 => ?_⟩
  split at q1
  · rename_i h
    rw [if_pos h]
    exact q1 vw1 .rfl' ok1 rfl
  · rename_i h
    rw [if_neg h]
    exact ⟨vw1, env, rfl, ok1, re.mono l1, q1⟩
theorem pxt_w (h : PXW X G E a ta) : PXT X G E a ta := h.pt
theorem pxt_not (ha : PXT X G E a ta) : PXT X G E (.UnaryOp .Not a pos) (rNot ta) := (pt_not ha).weak fun σ H Q ⟨vw, env, eH, ok, re, q⟩ =>
  ⟨vw, env, eH, ok, re, (GQ.bind q).imp fun vw1 x l1 ok1 q1 => q1 vw1 .rfl' ok1 rfl⟩
/-- as values -/
def rAndV (r s : RX) : RX := fun env st => (r env st).bind fun x st1 => match x with
  | .p (.bl true) => s env st1
  | .p (.bl false) => .ok (.p (.bl false)) st1
  | _ => .no
def rOrV (r s : RX) : RX := fun env st => (r env st).bind fun x st1 => match x with
  | .p (.bl false) => s env st1
  | .p (.bl true) => .ok (.p (.bl true)) st1
  | _ => .no
def rNotV (r : RX) : RX := fun env st => (r env st).bind fun x st1 => match x with
  | .p (.bl b) => .ok (.p (.bl (!b))) st1
  | _ => .no
theorem px_one {op} (h : PX X G E a ra) : PX X G E (.BoolOp op [a] pos) ra := pe_one h
theorem px_and (ha : PX X G E a ra) (hb : PX X G E (.BoolOp .And (b :: rest) pos) rb) : PX X G E (.BoolOp .And (a :: b :: rest) pos) (rAndV ra rb) := (pe_and ha hb).weak fun σ H Q ⟨vw, env, eH, ok, re, q⟩ => by
  refine ⟨vw, env, eH, ok, re, (GQ.bind q).imp fun vw1 x l1 ok1 q1 v1 r1 => ?_⟩
  split at q1
  · exact ⟨true, RelVV.bl r1, by rw [if_pos rfl]; exact ⟨vw1, env, rfl, ok1, re.mono l1, q1⟩⟩
  · exact ⟨false, RelVV.bl r1, by rw [if_neg Bool.false_ne_true]; exact q1 vw1 .rfl' ok1 rfl _ vvBl⟩
  · exact q1.elim
theorem px_or (ha : PX X G E a ra) (hb : PX X G E (.BoolOp .Or (b :: rest) pos) rb) : PX X G E (.BoolOp .Or (a :: b :: rest) pos) (rOrV ra rb) := (pe_or ha hb).weak fun σ H Q ⟨vw, env, eH, ok, re, q⟩ => by
  refine ⟨vw, env, eH, ok, re, (GQ.bind q).imp fun vw1 x l1 ok1 q1 v1 r1 => ?_⟩
  split at q1
  · exact ⟨false, RelVV.bl r1, by rw [if_neg Bool.false_ne_true]; exact ⟨vw1, env, rfl, ok1, re.mono l1, q1⟩⟩
  · exact ⟨true, RelVV.bl r1, by rw [if_pos rfl]; exact q1 vw1 .rfl' ok1 rfl _ vvBl⟩
  · exact q1.elim
theorem px_not (ha : PX X G E a ra) : PX X G E (.UnaryOp .Not a pos) (rNotV ra) := (pe_not ha).weak fun σ H Q ⟨vw, env, eH, ok, re, q⟩ => by
  refine ⟨vw, env, eH, ok, re, (GQ.bind q).imp fun vw1 x l1 ok1 q1 v1 r1 => ?_⟩
  split at q1
  · exact ⟨_, RelVV.bl r1, q1 vw1 .rfl' ok1 rfl _ vvBl⟩
  · exact q1.elim
def rIf (t : RT) (r s : RX) : RX := fun env st => (t env st).bind fun x st1 => if x = true then r env st1 else s env st1
theorem px_if (hc : PXT X G E c ta) (ha : PX X G E a ra) (hb : PX X G E b rb) : PX X G E (.IfExp c a b pos) (rIf ta ra rb) := (pe_ifExp hc ha hb).weak fun σ H Q ⟨vw, env, eH, ok, re, q⟩ => by
  refine ⟨vw, env, eH, ok, re, (GQ.bind q).imp fun vw1 x l1 ok1 q1 => ?_⟩
  split at q1
  · rename_i h
    rw [if_pos h]
    exact ⟨vw1, env, rfl, ok1, re.mono l1, q1⟩
  · rename_i h
    rw [if_neg h]
    exact ⟨vw1, env, rfl, ok1, re.mono l1, q1⟩
def pNeg : PV → Option PV
  | .int i => some (.int (-i))
  | _ => none
def r1 (p : PV → Option PV) (r : RX) : RX := fun env st => (r env st).bind fun x st1 => match x with
  | .p x => (match p x with
    | some z => .ok (.p z) st1
    | none => .no)
  | _ => .no
theorem px_neg (ha : PX X G E a ra) : PX X G E (.UnaryOp .USub a pos) (r1 pNeg ra) := (pe_un un_neg ha).weak fun σ H Q ⟨vw, env, eH, ok, re, q⟩ => by
  refine ⟨vw, env, eH, ok, re, (GQ.bind q).imp fun vw1 x l1 ok1 q1 v1 r1 => ?_⟩
  cases x with
  | ref n => exact q1.elim
  | p x =>
    cases x <;> first
      | exact q1.elim
      | exact ⟨_, RelVV.int r1, q1 vw1 .rfl' ok1 rfl _ vvInt⟩
/-! ### statements -/
variable {st : Stmt} {sts : List Stmt} {rs rs' : RS}
def sNil : RS := fun env st => .nx env st
def sSeq (s t : RS) : RS := fun env st => match s env st with
  | .nx e st1 => t e st1
  | r => r
theorem pxs_nil : PXSs X G E [] sNil := pss_nil.weak fun D σ H ⟨vw, env, eH, ok, re, q⟩ => by
  subst eH
  exact q vw σ .rfl' ok rfl re
theorem seq_read {w : World} {K : PySem.W.Frag} {D : Ends} {σ : SSt} {H : Hp} (h : tS w K G E (sSeq rs rs') D σ H) : tSeq (tS w K G E rs) (tS w K G E rs') D σ H := by
  obtain ⟨vw, env, eH, ok, re, q⟩ := h
  refine ⟨vw, env, eH, ok, re, ?_⟩
  unfold sSeq at q
  generalize rs env vw.st = r at q
  cases r with
  | nx e st1 => exact fun vw' σ' l o es r' => ⟨vw', e, rfl, o, r', by rw [es]; exact GS.back l q⟩
  | rt x st1 => exact q
  | bk e st1 => exact q
  | ct e st1 => exact q
  | ex c us e st1 => exact q
  | no => exact q
theorem pxs_cons (h1 : PXS X G E st rs) (h2 : PXSs X G E sts rs') : PXSs X G E (st :: sts) (sSeq rs rs') := (pss_cons h1 h2).weak fun D σ H h => seq_read h
theorem pxs_one (h1 : PXS X G E st rs) : PXSs X G E [st] rs := pss_one h1
def sPass : RS := fun env st => .nx env st
theorem pxs_pass : PXS X G E (.Pass pos) sPass := ps_pass.weak fun D σ H ⟨vw, env, eH, ok, re, q⟩ => by
  subst eH
  exact q vw σ .rfl' ok rfl re
def sBreak : RS := fun env st => .bk env st
theorem pxs_break : PXS X G E (.Break pos) sBreak := ps_break.weak fun D σ H ⟨vw, env, eH, ok, re, q⟩ => by
  subst eH
  exact q vw σ .rfl' ok rfl re
def sCont : RS := fun env st => .ct env st
theorem pxs_cont : PXS X G E (.Continue pos) sCont := ps_continue.weak fun D σ H ⟨vw, env, eH, ok, re, q⟩ => by
  subst eH
  exact q vw σ .rfl' ok rfl re
/-- a result of an expression, as a statement's -/
def Res.toS {α : Type} (r : Res α) (env : EE) (k : α → Sto → SRes) : SRes := match r with
  | .ok x st => k x st
  | .ex c us st => .ex c us env st
  | .no => .no
theorem GS.bind {w : World} {K : PySem.W.Frag} {α : Type} {vw : Vw} {r : Res α} {env : EE} {k : α → Sto → SRes} {D : Ends} (h : GS w K G vw E (r.toS env k) D) : GQ w K G vw (fun vw' => E vw' env) r fun vw1 x => GS w K G vw1 E (k x vw1.st) D := by
  cases r with
  | ok x st =>
    intro vw' l ok e
    rw [e]
    exact GS.back l h
  | ex c us st => exact h
  | no => exact h
def sExpr (r : RX) : RS := fun env st => (r env st).toS env fun _ st1 => .nx env st1
theorem pxs_expr (ha : PX X G E a ra) (hs : swapsWith a none pos.line X.env = pure false := by rfl) : PXS X G E (.Expr a pos) (sExpr ra) := (ps_expr ha hs).weak fun D σ H ⟨vw, env, eH, ok, re, q⟩ =>
  ⟨vw, env, eH, ok, re, (GS.bind q).imp fun vw1 x l1 ok1 q1 v1 r1 => q1 vw1 σ .rfl' ok1 rfl (re.mono l1)⟩
def sRet (r : RX) : RS := fun env st => (r env st).toS env fun x st1 => .rt x st1
theorem pxs_ret (ha : PX X G E a ra) : PXS X G E (.Return (some a) pos) (sRet ra) := (ps_ret ha).weak fun D σ H ⟨vw, env, eH, ok, re, q⟩ =>
  ⟨vw, env, eH, ok, re, (GS.bind q).imp fun vw1 x l1 ok1 q1 v1 r1 => q1 vw1 v1 .rfl' ok1 rfl r1⟩
def sRetN : RS := fun _ st => .rt (.p .non) st
theorem pxs_retN : PXS X G E (.Return none pos) sRetN := ps_retN.weak fun D σ H ⟨vw, env, eH, ok, re, q⟩ => by
  subst eH
  exact q vw .non .rfl' ok rfl vvNon
def sIf (t : RT) (r s : RS) : RS := fun env st => (t env st).toS env fun x st1 => if x = true then r env st1 else s env st1
theorem pxs_if {x y : List Stmt} (hc : PXT X G E c ta) (ha : PXSs X G E x rs) (hb : PXSs X G E y rs') : PXS X G E (.If c x y pos) (sIf ta rs rs') := (ps_if hc ha hb).weak fun D σ H ⟨vw, env, eH, ok, re, q⟩ => by
  refine ⟨vw, env, eH, ok, re, (GS.bind q).imp fun vw1 x l1 ok1 q1 => ?_⟩
  split at q1
  · rename_i h
    rw [if_pos h]
    exact ⟨vw1, env, rfl, ok1, re.mono l1, q1⟩
  · rename_i h
    rw [if_neg h]
    exact ⟨vw1, env, rfl, ok1, re.mono l1, q1⟩
def sNo : RS := fun _ _ => .no
theorem pxs_never : PXS X G E st sNo := ps_never.weak fun D σ H ⟨vw, env, eH, ok, re, q⟩ => q.elim
theorem pxs_doc {x j pos'} : PXS X G E (.Expr (.Constant (.str x) j pos) pos') sPass := ps_doc.weak fun D σ H ⟨vw, env, eH, ok, re, q⟩ => by
  subst eH
  exact q vw σ .rfl' ok rfl re
/-! ### targets -/
/-- a name at a slot, or a tuple of targets (cons, end) -/
inductive Tg where
  | nm (i : Nat) | nil | cons (t ts : Tg)
def Tg.run : Tg → (VV → EE → Option EE) × (List PV → EE → Option EE)
  | .nm i => (fun x env => if i < env.length then some (env.set i (some x)) else none, fun _ _ => none)
  | .nil => (fun _ _ => none, fun xs env => match xs with
    | [] => some env
    | _ => none)
  | .cons t ts => (fun x env => match x with
      | .p (.tup (x :: xs)) => (t.run.1 (.p x) env).bind (ts.run.2 xs)
      | _ => none, fun xs env => match xs with
      | x :: xs => (t.run.1 (.p x) env).bind (ts.run.2 xs)
      | _ => none)
def Tg.len : Tg → Nat
  | .cons _ ts => ts.len + 1
  | _ => 0
def Tg.rd2 (K : PySem.W.Frag) : Tg → TG × TGs
  | .nm i => (gName i, fun _ _ _ _ => False)
  | .nil => (fun _ _ _ _ => False, gNil)
  | .cons t ts => (gTup K (ts.len + 1) (gCons (t.rd2 K).1 (ts.rd2 K).2), gCons (t.rd2 K).1 (ts.rd2 K).2)
abbrev Tg.set (t : Tg) : VV → EE → Option EE := t.run.1
abbrev Tg.rd (K : PySem.W.Frag) (t : Tg) : TG := (t.rd2 K).1
def Tg.slots : Tg → List Nat
  | .nm i => [i]
  | .nil => []
  | .cons t ts => t.slots ++ ts.slots
abbrev PXG (X : Cx) (e : Expr) (t : Tg) : Prop := PG X e (t.rd X.K)
abbrev PXGs (X : Cx) (es : List Expr) (ts : Tg) : Prop := PGs X es (ts.rd2 X.K).2
theorem RepE.set {w : World} {K : PySem.W.Frag} {vw : Vw} {env : EE} {σ : SSt} {i : Nat} {x : VV} {v : V} (h : RepE w K G vw env σ) (r : RelVV w K G vw x v) : RepE w K G vw (env.set i (some x)) (σ.set i (some v)) := by
  refine ⟨by simpa using h.1, fun j y e => ?_⟩
  by_cases hj : i = j
  · subst hj
    by_cases hl : i < env.length
    · rw [List.getElem?_set_self hl] at e
      cases e
      exact ⟨v, List.getElem?_set_self (by rw [← h.1]; exact hl), r⟩
    · rw [List.getElem?_eq_none (by simpa using hl)] at e
      cases e
  · rw [List.getElem?_set_ne hj] at e
    obtain ⟨u, e1, r1⟩ := h.2 j y e
    exact ⟨u, by rw [List.getElem?_set_ne hj]; exact e1, r1⟩
theorem wipe_set (σ : SSt) (i : Nat) (x : Option V) : ∀ vs : List Nat, i ∈ vs → L2.wipe (List.set σ i x) vs = L2.wipe σ vs := by
  have gen : ∀ vs : List Nat, (i ∈ vs → L2.wipe (List.set σ i x) vs = L2.wipe σ vs) ∧ (i ∉ vs → L2.wipe (List.set σ i x) vs = List.set (L2.wipe σ vs) i x) := by
    intro vs
    induction vs with
    | nil => exact ⟨fun h => absurd h (by simp), fun _ => rfl⟩
    | cons v vs ih =>
      have e1 : L2.wipe (List.set σ i x) (v :: vs) = List.set (L2.wipe (List.set σ i x) vs) v none := rfl
      have e2 : L2.wipe σ (v :: vs) = List.set (L2.wipe σ vs) v none := rfl
      by_cases hv : i ∈ vs
      · refine ⟨fun _ => ?_, fun h => absurd (List.mem_cons_of_mem _ hv) h⟩
        rw [e1, e2, ih.1 hv]
      · by_cases he : i = v
        · subst he
          refine ⟨fun _ => ?_, fun h => absurd List.mem_cons_self h⟩
          rw [e1, e2, ih.2 hv, List.set_set]
        · refine ⟨fun h => ?_, fun _ => ?_⟩
          · rcases List.mem_cons.mp h with h | h
            · exact absurd h he
            · exact absurd h hv
          · rw [e1, e2, ih.2 hv, List.set_comm _ _ he]
  exact fun vs h => (gen vs).1 h
theorem no_none {α : Type _} {P : Prop} {x : α} (h : (none : Option α) = some x) : P := by cases h
theorem Tg.sets_len : ∀ (t : Tg) (xs : List PV) (env e' : EE), t.run.2 xs env = some e' → xs.length = t.len
  | .nm i, xs, env, e', h => by cases h
  | .nil, xs, env, e', h => by
    cases xs with
    | nil => rfl
    | cons x xs => cases h
  | .cons t ts, xs, env, e', h => by
    cases xs with
    | nil => cases h
    | cons x xs =>
      obtain ⟨_, _, h⟩ := Option.bind_eq_some_iff.mp (show (t.run.1 (.p x) env).bind (ts.run.2 xs) = some e' from h)
      rw [List.length_cons, Tg.sets_len ts xs _ _ h]
      rfl
theorem Tg.read2 {w : World} {K : PySem.W.Frag} {vw : Vw} : ∀ (t : Tg),
    (∀ (Q : SSt → Hp → Prop) (x : VV) (v : V) (env e' : EE) (σ : SSt), RelVV w K G vw x v → RepE w K G vw env σ → t.run.1 x env = some e' →
      (∀ σ', RepE w K G vw e' σ' → (∀ vs, (∀ i ∈ t.slots, i ∈ vs) → L2.wipe σ' vs = L2.wipe σ vs) → Q σ' vw.H) → (t.rd2 K).1 v σ vw.H Q) ∧
    (∀ (Q : SSt → Hp → Prop) (xs : List PV) (us : List V) (env e' : EE) (σ : SSt), RelPs w K G vw.H vw.Z xs us → RepE w K G vw env σ → t.run.2 xs env = some e' →
      (∀ σ', RepE w K G vw e' σ' → (∀ vs, (∀ i ∈ t.slots, i ∈ vs) → L2.wipe σ' vs = L2.wipe σ vs) → Q σ' vw.H) → (t.rd2 K).2 us σ vw.H Q) := by
  intro t
  induction t with
  | nm i =>
    refine ⟨fun Q x v env e' σ r re e q => ?_, fun Q xs us env e' σ r re e q => no_none e⟩
    have e : (if i < env.length then some (env.set i (some x)) else none) = some e' := e
    split at e
    · cases e
      exact q _ (re.set r) fun vs h => wipe_set σ i _ vs (h i List.mem_cons_self)
    · cases e
  | nil =>
    refine ⟨fun Q x v env e' σ r re e q => no_none e, fun Q xs us env e' σ r re e q => ?_⟩
    cases xs with
    | cons x xs => cases e
    | nil =>
      cases e
      rw [RelPs] at r
      exact ⟨r, q σ re fun _ _ => rfl⟩
  | cons t ts ih1 ih2 =>
    have key : ∀ (Q : SSt → Hp → Prop) (x : PV) (xs : List PV) (us : List V) (env e' : EE) (σ : SSt), RelPs w K G vw.H vw.Z (x :: xs) us → RepE w K G vw env σ → (t.run.1 (.p x) env).bind (ts.run.2 xs) = some e' →
        (∀ σ', RepE w K G vw e' σ' → (∀ vs, (∀ i ∈ (Tg.cons t ts).slots, i ∈ vs) → L2.wipe σ' vs = L2.wipe σ vs) → Q σ' vw.H) → gCons (t.rd2 K).1 (ts.rd2 K).2 us σ vw.H Q := fun Q x xs us env e' σ r re e q => by
      obtain ⟨e1, ee, e⟩ := Option.bind_eq_some_iff.mp e
      rw [RelPs] at r
      obtain ⟨v, rr, rfl, r1, r2⟩ := r
      refine ⟨v, rr, rfl, ih1.1 _ (.p x) v env e1 σ r1 re ee fun σ1 re1 w1 => ih2.2 Q xs rr e1 e' σ1 r2 re1 e fun σ2 re2 w2 => q σ2 re2 fun vs h => ?_⟩
      rw [w2 vs fun i hi => h i (List.mem_append_right _ hi), w1 vs fun i hi => h i (List.mem_append_left _ hi)]
    refine ⟨fun Q x v env e' σ r re e q => ?_, fun Q xs us env e' σ r re e q => ?_⟩
    · cases x with
      | ref n => cases e
      | p x =>
        cases x <;> try (cases e; done)
        rename_i xs
        cases xs with
        | nil => cases e
        | cons x xs =>
          obtain ⟨p, us, rfl, hp, l, r⟩ := relTup.mp (show RelP w K G vw.H vw.Z (.tup (x :: xs)) v from r)
          have e : (t.run.1 (.p x) env).bind (ts.run.2 xs) = some e' := e
          refine ⟨p, us, rfl, hp, ?_, key Q x xs us env e' σ r re e q⟩
          obtain ⟨_, _, e2⟩ := Option.bind_eq_some_iff.mp e
          rw [← r.len, List.length_cons, Tg.sets_len ts xs _ _ e2]
    · cases xs with
      | nil => cases e
      | cons x xs => exact key Q x xs us env e' σ r re e q
theorem Tg.read {w : World} {K : PySem.W.Frag} {vw : Vw} {Q : SSt → Hp → Prop} (t : Tg) (x : VV) (v : V) (env e' : EE) (σ : SSt) (r : RelVV w K G vw x v) (re : RepE w K G vw env σ) (e : t.set x env = some e')
    (q : ∀ σ', RepE w K G vw e' σ' → (∀ vs, (∀ i ∈ t.slots, i ∈ vs) → L2.wipe σ' vs = L2.wipe σ vs) → Q σ' vw.H) : t.rd K v σ vw.H Q := (Tg.read2 t).1 Q x v env e' σ r re e q
theorem pxg_name {i : Nat} {x : Str} (hN : X.N.Nodup) (hi : X.N[i]? = some x) (hx : Loc X.env.scope x) (hf : X.fn x = true ∨ X.env.scope.names.lookup x = some .local := by first | exact .inl rfl | exact .inr rfl | assumption) : PXG X (.Name x pos) (.nm i) := pg_name hN hi hx hf
theorem pxgs_nil : PXGs X [] .nil := pgs_nil
theorem pxgs_cons {e : Expr} {es : List Expr} {t ts : Tg} (h1 : PXG X e t) (h2 : PXGs X es ts)
    (hs : (assignEach (e :: es) X.env).map (·.2) = assign e X.env :: (assignEach es X.env).map (·.2) := by rfl) : PXGs X (e :: es) (.cons t ts) := pgs_cons h1 h2 hs
theorem pxg_tup {es : List Expr} {k : Nat} {t ts : Tg} (hc : X.calm = true) (h : PXGs X es (.cons t ts))
    (hn : (assignEach es X.env).length = ts.len + 1 := by rfl) (hst : (assignEach es X.env).findIdx? (·.1) = none := by rfl) : PXG X (.Tuple es k pos) (.cons t ts) := pg_tup hc h hn hst
/-- target = value -/
def sAsg (r : RX) (g : Tg) : RS := fun env st => (r env st).toS env fun x st1 => match g.set x env with
  | some e => .nx e st1
  | none => .no
theorem asg_read {w : World} {K : PySem.W.Frag} {g : Tg} {D : Ends} {σ : SSt} {H : Hp} (h : tS w K G E (sAsg ra g) D σ H) : tAsg (tE w K G E ra) (g.rd K) D σ H := by
  obtain ⟨vw, env, eH, ok, re, q⟩ := h
  refine ⟨vw, env, eH, ok, re, (GS.bind q).imp fun vw1 x l1 ok1 q1 v1 r1 => ?_⟩
  split at q1
  · rename_i e' ee
    exact Tg.read g x v1 env e' σ r1 (re.mono l1) ee fun σ' re' _ => q1 vw1 σ' .rfl' ok1 rfl re'
  · exact q1.elim
theorem pxs_asg {tg : Expr} {g : Tg} (ha : PX X G E a ra) (hg : PXG X tg g) (hs : swapsWithSole [tg] a pos.line X.env = pure false := by rfl) (hw : swappedStores [tg] a X.env = pure none := by rfl)
    (h1 : (assignEach [tg] X.env).map (·.2) = [assign tg X.env] := by rfl) : PXS X G E (.Assign [tg] a pos) (sAsg ra g) := (ps_asg ha hg hs hw h1).weak fun D σ H h => asg_read h
/-- a, b = x, y -/
def sPar (i j : Nat) (t : RA) : RS := fun env st => (t env st).toS env fun xs st1 => match xs with
  | [x, y] => if i < env.length ∧ j < env.length then .nx ((env.set i (some x)).set j (some y)) st1 else .no
  | _ => .no
theorem pxs_par {i j : Nat} {x y : Str} {t : RA} {px py pt : Pos} {kt k2 pt2} (hc : X.calm = true) (hN : X.N.Nodup) (hi : X.N[i]? = some x) (hj : X.N[j]? = some y) (hij : i ≠ j)
    (hx : X.env.scope.names.lookup x = some .local) (hy : X.env.scope.names.lookup y = some .local) (ha : PXA X G E [a, b] t)
    (hw : swappedStores [.Tuple [.Name x px, .Name y py] kt pt] (.Tuple [a, b] k2 pt2) X.env = pure (some [x, y]))
    (hs : swapsWithSole [.Tuple [.Name x px, .Name y py] kt pt] (.Tuple [a, b] k2 pt2) pos.line X.env = pure false := by rfl) :
    PXS X G E (.Assign [.Tuple [.Name x px, .Name y py] kt pt] (.Tuple [a, b] k2 pt2) pos) (sPar i j t) :=
  (ps_par hc hN hi hj hij hx hy ha hw hs).weak fun D σ H ⟨vw, env, eH, ok, re, q⟩ => by
    refine ⟨vw, env, eH, ok, re, (GS.bind q).imp fun vw1 x l1 ok1 q1 vs rs => ?_⟩
    split at q1
    · rename_i x y
      obtain ⟨v, r, rfl, r1, v2, r', rfl, r2, rfl⟩ := rs
      split at q1
      · exact ⟨v, v2, rfl, q1 vw1 _ .rfl' ok1 rfl (((re.mono l1).set r1).set r2)⟩
      · exact q1.elim
    · exact q1.elim
end
end Ev
end S_Ev6
section S_Ev7
namespace Ev
open PySem PySem.Spec PyProof.Rows L2
/-! ### views under a frame -/
section
variable {w : World} {K : PySem.W.Frag} {G : Nat → Addr} {vw vw1 vw2 : Vw}
/-- D is held apart -/
structure Apart (vw : Vw) (D : Addr) : Prop where
  nn : vw.H D ≠ none
  nz : ¬ vw.Z D
  nf : ¬ vw.F D
  nl : ∀ n o, vw.st[n]? = some (some o) → vw.al n ≠ D
  nt : ∀ ps, vw.H D ≠ some (.tbl ps)
def Vw.hold (vw : Vw) (D : Addr) : Vw := { vw with F := fun a => vw.F a ∨ a = D }
def Vw.unhold (vw : Vw) (F : Addr → Prop) : Vw := { vw with F := F }
theorem OkOb.frame {a : Addr} {o : Ob} {vw' : Vw} (h : OkOb w K G vw a o) (eH : vw'.H = vw.H) (eZ : vw'.Z = vw.Z) (ea : ∀ n, n < vw.st.length → vw'.al n = vw.al n) (el : vw.st.length ≤ vw'.st.length) : OkOb w K G vw' a o := by
  cases o with
  | lst lk xs =>
    obtain ⟨vs, h1, h2, h3⟩ := h
    exact ⟨vs, by rw [eH]; exact h1, h2, by rw [eH, eZ]; exact h3⟩
  | dct nk lk ks us =>
    cases nk with
    | true =>
      obtain ⟨xs, h1, h2, h3, h4, h5⟩ := h
      exact ⟨xs, by rw [eH]; exact h1, h2, h3, by rw [eH, eZ]; exact h4, by rw [eH, eZ]; exact h5⟩
    | false =>
      obtain ⟨kvs, h1, h2, h3⟩ := h
      exact ⟨kvs, by rw [eH]; exact h1, h2, by rw [eH, eZ]; exact h3⟩
  | lkl xs =>
    obtain ⟨vs, h1, h2, h3⟩ := h
    exact ⟨vs, by rw [eH]; exact h1, h2, by rw [eH, eZ]; exact h3⟩
  | ins c fs us =>
    obtain ⟨dx, vs, h1, h2, h3⟩ := h
    refine ⟨dx, vs, by rw [eH]; exact h1, h2, ?_⟩
    clear h1 h2
    induction us generalizing vs with
    | nil => exact h3
    | cons u us ih =>
      obtain ⟨v, r, rfl, r1, r2⟩ := h3
      refine ⟨v, r, rfl, ?_, ih r r2⟩
      cases u with
      | p x => exact (show RelP w K G vw'.H vw'.Z x v by rw [eH, eZ]; exact r1)
      | ref n => exact ⟨Nat.lt_of_lt_of_le r1.1 el, by rw [ea n r1.1]; exact r1.2⟩
theorem VOk.hold {D : Addr} (ok : VOk w K G vw) (d : Apart vw D) : VOk w K G (vw.hold D) :=
  ⟨fun a h1 h2 => h2.elim (ok.zf a h1) fun e => d.nz (by rw [← e]; exact h1), fun a h => h.elim (ok.fn a) fun e => by rw [e]; exact d.nn, ok.zn, fun n o e => (ok.ob n o e).frame rfl rfl (fun _ _ => rfl) (Nat.le_refl _),
    fun n o e => ⟨(ok.nz n o e).1, fun h => h.elim (ok.nz n o e).2 (d.nl n o e)⟩, ok.inj, ok.tab.move (fun _ h => h) (fun _ z => .inl z) (fun a f => f.imp id fun e => by rw [e]; exact d.nt) (fun _ _ e => e) fun _ _ _ _ e => e⟩
theorem Le.unhold {D : Addr} (l : Le K (vw.hold D) vw1) : Le K vw (vw1.unhold vw.F) :=
  ⟨l.z, l.zr, l.ze, rfl, fun a h => l.fr a (.inl h), l.tu, l.al, l.len, l.fz⟩
theorem VOk.unhold {D : Addr} (l : Le K (vw.hold D) vw1) (ok : VOk w K G vw1) : VOk w K G (vw1.unhold vw.F) :=
  ⟨fun a h1 h2 => ok.zf a h1 (by rw [l.f]; exact .inl h2), fun a h => ok.fn a (by rw [l.f]; exact .inl h), ok.zn, fun n o e => (ok.ob n o e).frame rfl rfl (fun _ _ => rfl) (Nat.le_refl _),
    fun n o e => ⟨(ok.nz n o e).1, fun h => (ok.nz n o e).2 (by rw [l.f]; exact .inl h)⟩, ok.inj, ok.tab.move (fun _ h => h) (fun _ z => .inl z) (fun a f => .inl (by rw [l.f]; exact .inl f)) (fun _ _ e => e) fun _ _ _ _ e => e⟩
theorem Apart.still {D : Addr} (d : Apart vw D) (l : Le K (vw.hold D) vw1) (ok : VOk w K G vw1) : Apart (vw1.unhold vw.F) D ∧ vw1.H D = vw.H D := by
  have e : vw1.H D = vw.H D := l.fr D (.inr rfl)
  have f : vw1.F D := by rw [l.f]; exact .inr rfl
  exact ⟨⟨by show vw1.H D ≠ none; rw [e]; exact d.nn, fun z => ok.zf D z f, d.nf, fun n o q z => (ok.nz n o q).2 (by rw [show vw1.al n = D from z]; exact f), fun ps => by show vw1.H D ≠ _; rw [e]; exact d.nt ps⟩, e⟩
/-- what is held apart is changed -/
def Vw.put (vw : Vw) (D : Addr) (o : HO) : Vw := { vw with H := upd vw.H D o }
theorem Le.put {D : Addr} {o u : HO} (d : Apart vw D) (hu : vw.H D = some u) (nt : isTup u = false) : Le K vw (vw.put D o) where
  z := fun _ h => h
  zr := fun a u' h r => Rd.upd r (fun q => d.nz (by rw [← q]; exact h))
  ze := fun a o' h _ r => by show upd vw.H D o a = _; rw [upd_ne (fun q => d.nz (by rw [← q]; exact h))]; exact r
  f := rfl
  fr := fun a h => by show upd vw.H D o a = _; rw [upd_ne (fun q => d.nf (by rw [← q]; exact h))]
  tu := fun a vs h => by
    rcases h with h | h
    · refine .inl (Rd.upd h fun q => ?_)
      rw [q] at h
      rcases h with h | ⟨o', h⟩ <;> rw [hu] at h <;> cases h <;> cases nt
    · exact .inr h
  al := fun _ _ => rfl
  len := Nat.le_refl _
  fz := fun a x u' h => by
    show upd vw.H D o a = _
    rw [upd_ne (fun q => by rw [q, hu] at h; cases h; cases nt)]
    exact h
theorem VOk.put {D : Addr} {o u : HO} (ok : VOk w K G vw) (d : Apart vw D) (hu : vw.H D = some u) (nt : isTup u = false) : VOk w K G (vw.put D o) := by
  refine ⟨ok.zf, fun a h => ?_, fun a h => ?_, fun n ob e => ?_, ok.nz, ok.inj, ok.tab.put hu nt (fun _ h => h) fun _ z => .inl z⟩
  · show upd vw.H D o a ≠ none
    rw [upd_ne (fun q => d.nf (by rw [← q]; exact h))]
    exact ok.fn a h
  · show upd vw.H D o a ≠ none
    rw [upd_ne (fun q => d.nz (by rw [← q]; exact h))]
    exact ok.zn a h
  · exact (ok.ob n ob e).mono (Le.put d hu nt) (show upd vw.H D o (vw.al n) = vw.H (vw.al n) from upd_ne (d.nl n ob e))
theorem Apart.put {D : Addr} {o : HO} (d : Apart vw D) (ho : ∀ ps, o ≠ .tbl ps := by exact fun _ z => nomatch z) : Apart (vw.put D o) D := ⟨by show upd vw.H D o D ≠ none; rw [upd_same]; exact (fun z => nomatch z), d.nz, d.nf, d.nl, fun ps => by show upd vw.H D o D ≠ _; rw [upd_same]; exact fun z => ho ps (Option.some.inj z)⟩
/-- a new object, held apart -/
theorem newApart {D : Addr} {o : HO} (ok : VOk w K G vw) (n : vw.H D = none) (ho : ∀ ps, o ≠ .tbl ps := by exact fun _ z => nomatch z) : Le K vw (vw.grow D o False) ∧ VOk w K G (vw.grow D o False) ∧ Apart (vw.grow D o False) D :=
  ⟨Le.grow ok n, VOk.grow ok n, ⟨by show upd vw.H D o D ≠ none; rw [upd_same]; exact (fun z => nomatch z), fun z => z.elim (fun z => ok.zn D z n) fun z => z.2, fun f => ok.fn D f n, fun m b e z => (ok.ob m b e).some (by rw [show vw.al m = D from z]; exact n), fun ps => by show upd vw.H D o D ≠ _; rw [upd_same]; exact fun z => ho ps (Option.some.inj z)⟩⟩
/-- what is held apart becomes a value -/
def Vw.keep (vw : Vw) (D : Addr) : Vw := { vw with Z := fun a => vw.Z a ∨ a = D }
theorem Le.keep {D : Addr} : Le K vw (vw.keep D) := ⟨fun _ h => .inl h, fun _ _ _ h => h, fun _ _ _ _ h => h, rfl, fun _ _ => rfl, fun _ _ h => h, fun _ _ => rfl, Nat.le_refl _, fun _ _ _ h => h⟩
theorem VOk.keep {D : Addr} (ok : VOk w K G vw) (nn : vw.H D ≠ none) (nf : ¬ vw.F D) (nl : ∀ n o, vw.st[n]? = some (some o) → vw.al n ≠ D) (nt : ∀ ps, vw.H D ≠ some (.tbl ps)) : VOk w K G (vw.keep D) :=
  ⟨fun a h1 h2 => h1.elim (fun h => ok.zf a h h2) fun e => nf (by rw [← e]; exact h2), ok.fn, fun a h => h.elim (ok.zn a) fun e => by rw [e]; exact nn, fun n o e => (ok.ob n o e).mono Le.keep rfl, fun n o e => ⟨fun z => z.elim (ok.nz n o e).1 (nl n o e), (ok.nz n o e).2⟩, ok.inj, ok.tab.move (fun _ h => .inl h) (fun a z => z.imp id fun e => by rw [e]; exact nt) (fun _ f => .inl f) (fun _ _ e => e) fun _ _ _ _ e => e⟩
/-- objects of the store are given up -/
def Vw.less (vw : Vw) (st : Sto) : Vw := { vw with st := st }
theorem Le.less {st : Sto} (h : vw.st.length ≤ st.length) : Le K vw (vw.less st) := ⟨fun _ h => h, fun _ _ _ h => h, fun _ _ _ _ h => h, rfl, fun _ _ => rfl, fun _ _ h => h, fun _ _ => rfl, h, fun _ _ _ h => h⟩
theorem VOk.drop1 {n : Nat} (ok : VOk w K G vw) : VOk w K G (vw.less (vw.st.set n none)) := by
  have cs : ∀ m (o : Ob), (vw.st.set n none)[m]? = some (some o) → m ≠ n ∧ vw.st[m]? = some (some o) := fun m o e => by
    by_cases h : m = n
    · subst h
      by_cases hl : m < vw.st.length
      · rw [List.getElem?_set_self hl] at e; cases e
      · rw [List.getElem?_eq_none (by simpa using hl)] at e; cases e
    · rw [List.getElem?_set_ne (Ne.symm h)] at e
      exact ⟨h, e⟩
  refine ⟨ok.zf, ok.fn, ok.zn, fun m o e => ?_, fun m o e => ok.nz m o (cs m o e).2, fun m m' o o' e e' => ok.inj m m' o o' (cs m o e).2 (cs m' o' e').2, ok.tab⟩
  exact (ok.ob m o (cs m o e).2).frame rfl rfl (fun _ _ => rfl) (by show _ ≤ (vw.st.set n none).length; simp)
end
/-! ### freezing: an object of the store becomes a value -/
mutual
def frzV : Nat → Sto → VV → Option (PV × Sto)
  | _, st, .p x => some (x, st)
  | 0, _, .ref _ => none
  | k + 1, st, .ref n => match st[n]? with
    | some (some (.lst false xs)) => some (.lst xs, st.set n none)
    | some (some (.dct nk false ks us)) => some (.dct nk ks us, st.set n none)
    | some (some (.ins c fs us)) => (frzVs k (st.set n none) us).map fun (ys, st') => (.ins c fs ys, st')
    | _ => none
def frzVs : Nat → Sto → List VV → Option (List PV × Sto)
  | _, st, [] => some ([], st)
  | 0, _, _ :: _ => none
  | k + 1, st, u :: us => (frzV k st u).bind fun (y, st1) => (frzVs k st1 us).map fun (ys, st2) => (y :: ys, st2)
end
section
variable {w : World} {K : PySem.W.Frag} {G : Nat → Addr}
theorem frz_len : ∀ (k : Nat), (∀ (st : Sto) (x : VV) (z : PV) (st' : Sto), frzV k st x = some (z, st') → st'.length = st.length) ∧ (∀ (st : Sto) (x : List VV) (z : List PV) (st' : Sto), frzVs k st x = some (z, st') → st'.length = st.length) := by
  intro k
  induction k with
  | zero =>
    refine ⟨fun st x z st' h => ?_, fun st x z st' h => ?_⟩
    · cases x with
      | p x => rw [frzV] at h; cases h; rfl
      | ref n => rw [frzV] at h; cases h
    · cases x with
      | nil => rw [frzVs] at h; cases h; rfl
      | cons a b => rw [frzVs] at h; cases h
  | succ k ih =>
    refine ⟨fun st x z st' h => ?_, fun st x z st' h => ?_⟩
    · cases x with
      | p x => rw [frzV] at h; cases h; rfl
      | ref n =>
        rw [frzV] at h
        split at h
        · cases h; simp
        · cases h; simp
        · obtain ⟨⟨ys, st2⟩, e, q⟩ := Option.map_eq_some_iff.mp h
          cases q
          rw [ih.2 _ _ _ _ e]; simp
        · cases h
    · cases x with
      | nil => rw [frzVs] at h; cases h; rfl
      | cons a b =>
        rw [frzVs] at h
        obtain ⟨⟨y, st1⟩, e1, h⟩ := Option.bind_eq_some_iff.mp h
        obtain ⟨⟨ys, st2⟩, e, q⟩ := Option.map_eq_some_iff.mp h
        cases q
        rw [ih.2 _ _ _ _ e, ih.1 _ _ _ _ e1]
/-- an object of the store becomes a value, at o -/
def Vw.seal (vw : Vw) (n : Nat) (o : HO) : Vw := { vw with H := upd vw.H (vw.al n) o, Z := fun a => vw.Z a ∨ a = vw.al n, st := vw.st.set n none }
theorem Le.seal {vw : Vw} {n : Nat} {o u : HO} {ob : Ob} (ok : VOk w K G vw) (e : vw.st[n]? = some (some ob)) (hu : vw.H (vw.al n) = some u) (nt : isTup u = false) : Le K vw (vw.seal n o) where
  z := fun _ h => .inl h
  zr := fun a u' h r => Rd.upd r (fun q => (ok.nz n ob e).1 (by rw [← q]; exact h))
  ze := fun a o' h _ r => by show upd vw.H (vw.al n) o a = _; rw [upd_ne (fun q => (ok.nz n ob e).1 (by rw [← q]; exact h))]; exact r
  f := rfl
  fr := fun a h => by show upd vw.H (vw.al n) o a = _; rw [upd_ne (fun q => (ok.nz n ob e).2 (by rw [← q]; exact h))]
  tu := fun a vs h => by
    rcases h with h | h
    · refine .inl (Rd.upd h fun q => ?_)
      rw [q] at h
      rcases h with h | ⟨o', h⟩ <;> rw [hu] at h <;> cases h <;> cases nt
    · exact .inr h
  al := fun _ _ => rfl
  len := by show _ ≤ (vw.st.set n none).length; simp
  fz := fun a x u' h => by
    show upd vw.H (vw.al n) o a = _
    rw [upd_ne (fun q => by rw [q, hu] at h; cases h; cases nt)]
    exact h
theorem VOk.seal {vw : Vw} {n : Nat} {o u : HO} {ob : Ob} (ok : VOk w K G vw) (e : vw.st[n]? = some (some ob)) (hu : vw.H (vw.al n) = some u) (nt : isTup u = false) : VOk w K G (vw.seal n o) := by
  have cs : ∀ m (b : Ob), (vw.st.set n none)[m]? = some (some b) → m ≠ n ∧ vw.st[m]? = some (some b) := fun m b q => by
    by_cases h : m = n
    · subst h
      rw [List.getElem?_set_self (List.getElem?_eq_some_iff.mp e).1] at q; cases q
    · rw [List.getElem?_set_ne (Ne.symm h)] at q
      exact ⟨h, q⟩
  have ne : ∀ m (b : Ob), (vw.st.set n none)[m]? = some (some b) → vw.al m ≠ vw.al n := fun m b q z => (cs m b q).1 (ok.inj m n b ob (cs m b q).2 e z)
  refine ⟨fun a h1 h2 => h1.elim (fun h => ok.zf a h h2) fun h => (ok.nz n ob e).2 (by rw [← h]; exact h2), fun a h => ?_, fun a h => ?_, fun m b q => ?_, fun m b q => ⟨fun z => z.elim (ok.nz m b (cs m b q).2).1 (ne m b q), (ok.nz m b (cs m b q).2).2⟩, fun m m' b b' q q' z => ok.inj m m' b b' (cs m b q).2 (cs m' b' q').2 z, ok.tab.put hu nt (fun _ h => .inl h) fun _ z => z⟩
  · show upd vw.H (vw.al n) o a ≠ none
    rw [upd_ne (fun q => (ok.nz n ob e).2 (by rw [← q]; exact h))]
    exact ok.fn a h
  · show upd vw.H (vw.al n) o a ≠ none
    by_cases q : a = vw.al n
    · rw [q, upd_same]; exact fun z => nomatch z
    · rw [upd_ne q]
      exact h.elim (ok.zn a) fun h => absurd h q
  · have l := Le.seal (o := o) ok e hu nt
    exact (ok.ob m b (cs m b q).2).mono l (show upd vw.H (vw.al n) o (vw.al m) = vw.H (vw.al m) from upd_ne (ne m b q))
theorem upd_self {H : Hp} {a : Addr} {u : HO} (h : H a = some u) : upd H a u = H := by
  funext b
  by_cases e : b = a
  · subst e; rw [upd_same, h]
  · rw [upd_ne e]
end
section
variable {X : Cx} {G : Nat → Addr}
theorem frz_ok : ∀ (k : Nat), (∀ (pins : List (Addr × Obj)) (σ : SSt) (s : Shared) (vw : Vw) (x : VV) (z : PV) (v : V) (st' : Sto), Inv X pins σ vw.H s → VOk X.w X.K G vw → RelVV X.w X.K G vw x v → frzV k vw.st x = some (z, st') →
      ∃ vw', Inv X pins σ vw'.H s ∧ Le X.K vw vw' ∧ VOk X.w X.K G vw' ∧ vw'.st = st' ∧ RelP X.w X.K G vw'.H vw'.Z z v) ∧
    (∀ (pins : List (Addr × Obj)) (σ : SSt) (s : Shared) (vw : Vw) (x : List VV) (z : List PV) (v : List V) (st' : Sto), Inv X pins σ vw.H s → VOk X.w X.K G vw → RelVs X.w X.K G vw x v → frzVs k vw.st x = some (z, st') →
      ∃ vw', Inv X pins σ vw'.H s ∧ Le X.K vw vw' ∧ VOk X.w X.K G vw' ∧ vw'.st = st' ∧ RelPs X.w X.K G vw'.H vw'.Z z v) := by
  intro k
  induction k with
  | zero =>
    refine ⟨fun pins σ s vw x z v st' I ok r h => ?_, fun pins σ s vw x z v st' I ok r h => ?_⟩
    · cases x with
      | p x => rw [frzV] at h; cases h; exact ⟨vw, I, .rfl', ok, rfl, r⟩
      | ref n => rw [frzV] at h; cases h
    · cases x with
      | nil => rw [frzVs] at h; cases h; exact ⟨vw, I, .rfl', ok, rfl, by rw [show v = [] from r]; exact RelPs.nil⟩
      | cons a b => rw [frzVs] at h; cases h
  | succ k ih =>
    refine ⟨fun pins σ s vw x z v st' I ok r h => ?_, fun pins σ s vw x z v st' I ok r h => ?_⟩
    · cases x with
      | p x => rw [frzV] at h; cases h; exact ⟨vw, I, .rfl', ok, rfl, r⟩
      | ref n =>
        obtain ⟨hn, rfl⟩ := r
        rw [frzV] at h
        split at h
        · rename_i xs eo
          cases h
          obtain ⟨vs, h1, h2, h3⟩ := ok.ob n _ eo
          have l := Le.seal (K := X.K) (o := .lst vs) ok eo h1 rfl
          refine ⟨vw.seal n (.lst vs), by show Inv X pins σ (upd _ _ _) s; rw [upd_self h1]; exact I, l, VOk.seal ok eo h1 rfl, rfl, ?_⟩
          rw [RelP]
          exact ⟨_, vs, rfl, .inr rfl, upd_same, h2, l.ps h3⟩
        · rename_i nk ks us eo
          cases h
          cases nk with
          | true =>
            obtain ⟨xs, h1, h2, h3, h4, h5⟩ := ok.ob n _ eo
            have h1 : vw.H (vw.al n) = some (DN X.w (vw.al n) xs) := h1
            obtain ⟨od, I2⟩ := Inv.lock I h1 trivial
            have l := Le.seal (K := X.K) (o := .frz od (DN X.w (vw.al n) xs)) ok eo h1 rfl
            refine ⟨vw.seal n (.frz od (DN X.w (vw.al n) xs)), I2, l, VOk.seal ok eo h1 rfl, rfl, ?_⟩
            rw [RelP]
            exact ⟨_, rfl, .inr rfl, xs, ⟨od, upd_same⟩, h2, h3, l.ps h4, l.ps h5⟩
          | false =>
            obtain ⟨kvs, h1, h2, h3⟩ := ok.ob n _ eo
            have h1 : vw.H (vw.al n) = some (.dK kvs) := h1
            obtain ⟨od, I2⟩ := Inv.lock I h1 trivial
            have l := Le.seal (K := X.K) (o := .frz od (.dK kvs)) ok eo h1 rfl
            refine ⟨vw.seal n (.frz od (.dK kvs)), I2, l, VOk.seal ok eo h1 rfl, rfl, ?_⟩
            rw [RelP]
            exact ⟨_, rfl, .inr rfl, kvs, ⟨od, upd_same⟩, h2, l.ps h3⟩
        · rename_i c fs us eo
          obtain ⟨⟨ys, st2⟩, e, q⟩ := Option.map_eq_some_iff.mp h
          cases q
          obtain ⟨dx, vs, h1, h2, h3⟩ := ok.ob n _ eo
          have l := Le.seal (K := X.K) (o := .ins (G c) dx (fs.zip vs)) ok eo h1 rfl
          obtain ⟨vw2, I2, l2, o2, es2, r2⟩ := ih.2 pins σ s (vw.seal n (.ins (G c) dx (fs.zip vs))) us ys vs _ (by show Inv X pins σ (upd _ _ _) s; rw [upd_self h1]; exact I) (VOk.seal ok eo h1 rfl) (l.vs h3) e
          refine ⟨vw2, I2, l.trans l2, o2, es2, ?_⟩
          rw [RelP]
          exact ⟨_, dx, vs, rfl, l2.z _ (.inr rfl), l2.ze _ _ (.inr rfl) rfl upd_same, h2, r2⟩
        · cases h
    · cases x with
      | nil => rw [frzVs] at h; cases h; exact ⟨vw, I, .rfl', ok, rfl, by rw [show v = [] from r]; exact RelPs.nil⟩
      | cons a b =>
        obtain ⟨v1, vr, rfl, r1, r2⟩ := r
        rw [frzVs] at h
        obtain ⟨⟨y, st1⟩, e1, h⟩ := Option.bind_eq_some_iff.mp h
        obtain ⟨⟨ys, st2⟩, e, q⟩ := Option.map_eq_some_iff.mp h
        cases q
        obtain ⟨vw1, I1, l, o, es, q1⟩ := ih.1 pins σ s vw a y v1 st1 I ok r1 e1
        rw [← es] at e
        obtain ⟨vw2, I2, l2, o2, es2, q2⟩ := ih.2 pins σ s vw1 b ys vr _ I1 o (l.vs r2) e
        exact ⟨vw2, I2, l.trans l2, o2, es2, RelPs.cons (l2.p q1) q2⟩
end
end Ev
end S_Ev7
section S_Ev8
namespace Ev
open PySem PySem.Spec PyProof.Rows L2
/-! ### what is walked -/
/-- the iterator J walks xs, whatever is done meanwhile -/
structure ItOk (w : World) (K : PySem.W.Frag) (G : Nat → Addr) (vw1 : Vw) (J : It) (xs : List PV) : Prop where
  go : ∀ i vw', Lz K vw1 vw' → VOk w K G vw' → i < xs.length → J.go i vw'.H
  stop : ∀ i vw', Lz K vw1 vw' → VOk w K G vw' → i = xs.length → J.stop i vw'.H
  yld : ∀ i vw' x H', Lz K vw1 vw' → VOk w K G vw' → J.yld i vw'.H x H' → ∀ z, xs[i]? = some z → ∃ vw'', vw''.H = H' ∧ Le K vw' vw'' ∧ VOk w K G vw'' ∧ vw''.st = vw'.st ∧ (∀ a, vw''.Z a → vw'.Z a) ∧ RelP w K G vw''.H vw''.Z z x
  /-- a held object is left alone by it -/
  held : ∀ i vw' x H', Lz K vw1 vw' → VOk w K G vw' → J.yld i vw'.H x H' → i < xs.length → ∀ a, vw'.H a ≠ none → H' a = vw'.H a
abbrev RI := EE → Sto → Res (List PV)
def tI (w : World) (K : PySem.W.Frag) (G : Nat → Addr) (E : WE) (r : RI) : TI := fun σ H R => ∃ vw env, vw.H = H ∧ VOk w K G vw ∧ RepE w K G vw env σ ∧
  GQ w K G vw (fun vw' => E vw' env) (r env vw.st) fun vw1 xs => ∀ J H1, (∃ vw2, vw2.H = H1 ∧ Le K vw1 vw2 ∧ VOk w K G vw2 ∧ vw2.st = vw1.st ∧ ItOk w K G vw2 J xs) → R J H1
abbrev PXI (X : Cx) (G : Nat → Addr) (E : WE) (tg iter : Expr) (r : RI) : Prop := PI X tg iter (tI X.w X.K G E r)
theorem _root_.L2.PI.weak {X : Cx} {tg e : Expr} {t t' : TI} (h : PI X tg e t) (f : ∀ σ H R, t' σ H R → t σ H R) : PI X tg e t' := by
  obtain ⟨h⟩ := h
  constructor
  intro pins s σ H R I q
  exact h pins s σ H R I (f σ H R q)
section
variable {X : Cx} {G : Nat → Addr} {E : WE} {pos : Pos} {tg it : Expr} {ri : RI} {rb rs : RS} {g : Tg} {ra : RX} {rt : RT}
def forGo (g : Tg) (b : RS) : List PV → EE → Sto → SRes
  | [], env, st => .nx env st
  | x :: xs, env, st => match g.set (.p x) env with
    | none => .no
    | some e => match b e st with
      | .nx e' st' => forGo g b xs e' st'
      | .ct e' st' => forGo g b xs e' st'
      | .bk e' st' => .nx e' st'
      | r => r
def sFor (ri : RI) (g : Tg) (b : RS) : RS := fun env st => (ri env st).toS env fun xs st1 => forGo g b xs env st1
theorem GS.ends {w : World} {K : PySem.W.Frag} {vw : Vw} {r : SRes} {D D' : Ends} (h : GS w K G vw E r D) (hn : ∀ e st, r = .nx e st → ∀ vw' σ, Le K vw vw' → VOk w K G vw' → vw'.st = st → RepE w K G vw' e σ → D'.nx σ vw'.H)
    (hr : ∀ x H, D.rt x H → D'.rt x H) (hb : ∀ e st, r = .bk e st → ∀ vw' σ, Le K vw vw' → VOk w K G vw' → vw'.st = st → RepE w K G vw' e σ → D'.bk σ vw'.H)
    (hc : ∀ e st, r = .ct e st → ∀ vw' σ, Le K vw vw' → VOk w K G vw' → vw'.st = st → RepE w K G vw' e σ → D'.ct σ vw'.H) : GS w K G vw E r D' := by
  cases r with
  | nx e st => exact hn e st rfl
  | rt x st => exact fun vw' v l ok q r => hr _ _ (h vw' v l ok q r)
  | bk e st => exact hb e st rfl
  | ct e st => exact hc e st rfl
  | ex c us e st => exact h
  | no => exact h
theorem for_read {w : World} {K : PySem.W.Frag} {D : Ends} {σ : SSt} {H : Hp} (h : tS w K G E (sFor ri g rb) D σ H) : tFor (tI w K G E ri) (g.rd K) (tS w K G E rb) D σ H := by
  obtain ⟨vw, env, eH, ok, re, q⟩ := h
  refine ⟨vw, env, eH, ok, re, (GS.bind q).imp fun vw1 xs l1 ok1 q1 J H1 ⟨vw2, eH2, l2, ok2, es2, it⟩ => ?_⟩
  subst eH2
  refine ⟨fun i m σ H => m = xs.length - i ∧ i ≤ xs.length ∧ ∃ vw env, vw.H = H ∧ VOk w K G vw ∧ Le K vw2 vw ∧ RepE w K G vw env σ ∧ GS w K G vw E (forGo g rb (xs.drop i) env vw.st) D,
    ⟨xs.length, by simp, Nat.zero_le _, vw2, env, rfl, ok2, .rfl', (re.mono l1).mono l2, by rw [List.drop_zero, es2]; exact GS.back l2 q1⟩, ?_⟩
  rintro i m σ H ⟨rfl, hi, vw3, env3, rfl, ok3, l3, re3, q3⟩
  by_cases hlt : i < xs.length
  · have ed : xs.drop i = xs[i] :: xs.drop (i + 1) := List.drop_eq_getElem_cons hlt
    refine .inr ⟨it.go i vw3 l3.lz ok3 hlt, fun σ' H' => i + 1 ≤ xs.length ∧ ∃ vw env, vw.H = H' ∧ VOk w K G vw ∧ Le K vw2 vw ∧ RepE w K G vw env σ' ∧ GS w K G vw E (forGo g rb (xs.drop (i + 1)) env vw.st) D,
      fun σ' H' n => ⟨xs.length - (i + 1), by omega, rfl, n⟩, fun x H' y => ?_⟩
    obtain ⟨vw4, rfl, l4, ok4, es4, _, r4⟩ := it.yld i vw3 x H' l3.lz ok3 y xs[i] (List.getElem?_eq_getElem hlt)
    rw [ed, forGo, ← es4] at q3
    cases hge : g.set (.p xs[i]) env3 with
    | none => rw [hge] at q3; exact q3.elim
    | some e =>
      rw [hge] at q3
      dsimp only at q3
      refine Tg.read g (.p xs[i]) x env3 e σ r4 (re3.mono l4) hge fun σ2 re2 _ => ?_
      refine ⟨vw4, e, rfl, ok4, re2, ?_⟩
      have nx : ∀ e' st', GS w K G vw3 E (forGo g rb (xs.drop (i + 1)) e' st') D → ∀ vw' σ', Le K vw4 vw' → VOk w K G vw' → vw'.st = st' → RepE w K G vw' e' σ' →
          i + 1 ≤ xs.length ∧ ∃ vw env, vw.H = vw'.H ∧ VOk w K G vw ∧ Le K vw2 vw ∧ RepE w K G vw env σ' ∧ GS w K G vw E (forGo g rb (xs.drop (i + 1)) env vw.st) D := fun e' st' h vw' σ' l' ok' es' re' =>
        ⟨hlt, vw', e', rfl, ok', (l3.trans l4).trans l', re', by rw [es']; exact GS.back (l4.trans l') h⟩
      generalize rb e vw4.st = r at q3 ⊢
      cases r with
      | nx e' st' => exact nx e' st' q3
      | ct e' st' => exact nx e' st' q3
      | bk e' st' => exact fun vw' σ' l' ok' es' re' => q3 vw' σ' (l4.trans l') ok' es' re'
      | rt x st' => exact GS.back l4 q3
      | ex c us e' st' => exact GS.back l4 q3
      | no => exact q3
  · have e : i = xs.length := by omega
    subst e
    rw [List.drop_length, forGo] at q3
    exact .inl ⟨it.stop _ vw3 l3.lz ok3 rfl, q3 vw3 σ .rfl' ok3 rfl re3⟩
theorem pxs_for {body : List Stmt} (hp : PassesOwn (model X.prog X.w) X.A X.env X.xe) (hc : X.calm = true) (hi : PXI X G E tg it ri) (hg : PXG X tg g) (hb : PXSs X G E body rb)
    (hs : ∀ x, foldedSetIterable it X.env x = pure x := by intro _; rfl) : PXS X G E (.For tg it body [] pos) (sFor ri g rb) := (ps_for hp hc hi hg hb hs).weak fun D σ H h => for_read h
/-! #### while -/
def whileGo (t : RT) (b : RS) : Nat → EE → Sto → SRes
  | 0, _, _ => .no
  | n + 1, env, st => (t env st).toS env fun x st1 => if x = true then (match b env st1 with
      | .nx e' st' => whileGo t b n e' st'
      | .ct e' st' => whileGo t b n e' st'
      | .bk e' st' => .nx e' st'
      | r => r) else .nx env st1
def sWhile (n : Nat) (t : RT) (b : RS) : RS := fun env st => whileGo t b n env st
theorem while_read {w : World} {K : PySem.W.Frag} {D : Ends} {σ : SSt} {H : Hp} {n : Nat} (h : tS w K G E (sWhile n rt rb) D σ H) : tWhile (tT w K G E rt) (tS w K G E rb) D σ H := by
  obtain ⟨vw, env, eH, ok, re, q⟩ := h
  refine ⟨fun m σ H => ∃ vw env, vw.H = H ∧ VOk w K G vw ∧ RepE w K G vw env σ ∧ GS w K G vw E (whileGo rt rb m env vw.st) D, ⟨n, vw, env, eH, ok, re, q⟩, ?_⟩
  rintro m σ H ⟨vw, env, rfl, ok, re, q⟩
  cases m with
  | zero => exact q.elim
  | succ m =>
    rw [whileGo] at q
    refine ⟨vw, env, rfl, ok, re, (GS.bind q).imp fun vw1 x l1 ok1 q1 => ?_⟩
    split at q1
    · rename_i h
      rw [if_pos h]
      refine ⟨fun σ' H' => ∃ vw env, vw.H = H' ∧ VOk w K G vw ∧ RepE w K G vw env σ' ∧ GS w K G vw E (whileGo rt rb m env vw.st) D, fun σ' H' n => ⟨m, Nat.lt_succ_self _, n⟩, vw1, env, rfl, ok1, re.mono l1, ?_⟩
      have nx : ∀ e' st', GS w K G vw1 E (whileGo rt rb m e' st') D → ∀ vw' σ', Le K vw1 vw' → VOk w K G vw' → vw'.st = st' → RepE w K G vw' e' σ' →
          ∃ vw env, vw.H = vw'.H ∧ VOk w K G vw ∧ RepE w K G vw env σ' ∧ GS w K G vw E (whileGo rt rb m env vw.st) D := fun e' st' h vw' σ' l' ok' es' re' =>
        ⟨vw', e', rfl, ok', re', by rw [es']; exact GS.back l' h⟩
      generalize rb env vw1.st = r at q1 ⊢
      cases r with
      | nx e' st' => exact nx e' st' q1
      | ct e' st' => exact nx e' st' q1
      | bk e' st' => exact q1
      | rt x st' => exact q1
      | ex c us e' st' => exact q1
      | no => exact q1
    · rename_i h
      rw [if_neg h]
      exact q1 vw1 σ .rfl' ok1 rfl (re.mono l1)
theorem pxs_while {n : Nat} {c : Expr} {body : List Stmt} (hp : PassesOwn (model X.prog X.w) X.A X.env X.xe) (hc : PXT X G E c rt) (hb : PXSs X G E body rb) : PXS X G E (.While c body [] pos) (sWhile n rt rb) := (ps_while hp hc hb).weak fun D σ H h => while_read h
/-! #### what may be walked -/
/-- the items of a list, a tuple -/
def rItems (r : RX) : RI := fun env st => (r env st).bind fun x st1 => match x with
  | .p (.lst xs) => .ok xs st1
  | .p (.tup xs) => .ok xs st1
  | .p (.lsf xs) => .ok xs st1
  | _ => .no
theorem it_list {w : World} {K : PySem.W.Frag} {vw1 : Vw} {p : Addr} {vs : List V} {xs : List PV} (h : Sf K vw1.H vw1.Z p vs) (r : RelPs w K G vw1.H vw1.Z xs vs) : ItOk w K G vw1 (Itl K p) xs where
  go := fun i vw' l ok hi => by
    have hi' : i < vs.length := by rw [← r.len]; exact hi
    exact ⟨vs, vs[i], (h.mono l).sq, List.getElem?_eq_getElem hi'⟩
  stop := fun i vw' l ok hi => ⟨vs, (h.mono l).sq, by rw [← r.len]; omega⟩
  yld := fun i vw' x H' l ok y z ez => by
    obtain ⟨rfl, y⟩ := y
    obtain ⟨v, e1, r1⟩ := r.get ez
    have := y vs (h.mono l).sq
    rw [e1] at this
    cases this
    exact ⟨vw', rfl, .rfl', ok, rfl, fun _ h => h, l.p r1⟩
  held := fun i vw' x H' l ok y _ a _ => by rw [y.1]
theorem it_tup {w : World} {K : PySem.W.Frag} {vw1 : Vw} {p : Addr} {vs : List V} {xs : List PV} (h : SqT K vw1.H p vs) (r : RelPs w K G vw1.H vw1.Z xs vs) : ItOk w K G vw1 (Itt K p) xs where
  go := fun i vw' l ok hi => by
    have hi' : i < vs.length := by rw [← r.len]; exact hi
    exact ⟨vs, vs[i], l.tu _ _ h, List.getElem?_eq_getElem hi'⟩
  stop := fun i vw' l ok hi => ⟨vs, l.tu _ _ h, by rw [← r.len]; omega⟩
  yld := fun i vw' x H' l ok y z ez => by
    obtain ⟨rfl, y⟩ := y
    obtain ⟨v, e1, r1⟩ := r.get ez
    have := y vs (l.tu _ _ h)
    rw [e1] at this
    cases this
    exact ⟨vw', rfl, .rfl', ok, rfl, fun _ h => h, l.p r1⟩
  held := fun i vw' x H' l ok y _ a _ => by rw [y.1]
/-- two walks by cases of the value -/
theorem pi_seq {e : Expr} {te : TE} (he : PE X e te) : PI X tg e (fun σ H R => te σ H fun x H1 => ∃ a, x = .ref a ∧ (((∃ xs, SqL X.K H1 a xs) ∧ R (Itl X.K a) H1) ∨ ((∃ xs, SqT X.K H1 a xs) ∧ R (Itt X.K a) H1))) := by
  have hv : ∀ (pins : List (Addr × Obj)) (s : Shared) (σ : SSt) (H : Hp) (R : It → Hp → Prop) (a : Addr), Inv X pins σ H s →
      (((∃ xs, SqL X.K H a xs) ∧ R (Itl X.K a) H) ∨ ((∃ xs, SqT X.K H a xs) ∧ R (Itt X.K a) H)) → wpAny (model X.prog X.w) X.A (pyIter (.ref a)) (PIE X pins σ tg R) X.xe s := fun pins s1 σ H1 R a I1 h => by
    rcases h with ⟨⟨xs, hq⟩, q⟩ | ⟨⟨xs, hq⟩, q⟩
    · obtain ⟨its, rv, p, hz⟩ := I1.list hq
      refine wpAny_pyIter_list p.isList ?_
      refine ⟨s1.heap.objs.size, [s1.heap.objs.size], _, _, H1, rfl, I1.kept (t' := s1.toks) fun b o e => Heap.get?_push_of_some _ e, turn_list a _, ⟨_, Heap.get?_push_size _ rfl, rfl, rfl⟩, fun b hb => ?_, q⟩
      have e : b = s1.heap.objs.size := by simpa using hb
      subst e
      exact I1.fpOk (Nat.le_refl _) (I1.hok.fresh (Nat.le_refl _))
    · obtain ⟨its, rv, p, hz⟩ := I1.tuple hq
      refine wpAny_pyIter_tuple (show s1.heap.IsTuple a its.toArray from p) ?_
      refine ⟨s1.heap.objs.size, [s1.heap.objs.size], _, _, H1, rfl, I1.kept (t' := s1.toks) fun b o e => Heap.get?_push_of_some _ e, turn_tuple a _, ⟨_, Heap.get?_push_size _ rfl, rfl, rfl⟩, fun b hb => ?_, q⟩
      have e : b = s1.heap.objs.size := by simpa using hb
      subst e
      exact I1.fpOk (Nat.le_refl _) (I1.hok.fresh (Nat.le_refl _))
  refine ⟨fun pins s σ H R I h => ?_⟩
  refine thn (he.run pins s σ H _ I h) fun v s1 ⟨x, H1, I1, r1, a, ex, q⟩ => ?_
  subst ex
  cases r1
  exact hv pins s1 σ H1 R a I1 q
theorem pxi_seq {e : Expr} (he : PX X G E e ra) : PXI X G E tg e (rItems ra) := (pi_seq he).weak fun σ H R ⟨vw, env, eH, ok, re, q⟩ => by
  refine ⟨vw, env, eH, ok, re, (GQ.bind q).imp fun vw1 x l1 ok1 q1 v1 r1 => ?_⟩
  split at q1
  · rename_i xs
    obtain ⟨p, vs, rfl, hz, hp, l, r⟩ := relLst.mp (show RelP X.w X.K G vw1.H vw1.Z (.lst xs) v1 from r1)
    exact ⟨p, rfl, .inl ⟨⟨vs, .of hp⟩, q1 vw1 .rfl' ok1 rfl _ _ ⟨vw1, rfl, .rfl', ok1, rfl, it_list (.inl ⟨hz, .inl hp⟩) r⟩⟩⟩
  · rename_i xs
    obtain ⟨p, vs, rfl, hp, l, r⟩ := relTup.mp (show RelP X.w X.K G vw1.H vw1.Z (.tup xs) v1 from r1)
    exact ⟨p, rfl, .inr ⟨⟨vs, hp⟩, q1 vw1 .rfl' ok1 rfl _ _ ⟨vw1, rfl, .rfl', ok1, rfl, it_tup hp r⟩⟩⟩
  · rename_i xs
    obtain ⟨p, vs, rfl, hp, l, r⟩ := relLsf.mp (show RelP X.w X.K G vw1.H vw1.Z (.lsf xs) v1 from r1)
    exact ⟨p, rfl, .inl ⟨⟨vs, hp.sq⟩, q1 vw1 .rfl' ok1 rfl _ _ ⟨vw1, rfl, .rfl', ok1, rfl, it_list hp r⟩⟩⟩
  · exact q1.elim
/-- lo, lo + 1, .. (n of them) -/
def upTo (lo : Int) (n : Nat) : List PV := (List.range n).map fun k => .int (lo + (k : Nat))
theorem it_range {w : World} {K : PySem.W.Frag} {vw1 : Vw} {lo : Int} {n : Nat} : ItOk w K G vw1 (Itr lo n) (upTo lo n) where
  go := fun i vw' l ok hi => show i < n by simpa [upTo] using hi
  stop := fun i vw' l ok hi => show n ≤ i by rw [hi]; simp [upTo]
  yld := fun i vw' x H' l ok y z ez => by
    obtain ⟨rfl, rfl⟩ := y
    refine ⟨vw', rfl, .rfl', ok, rfl, fun _ h => h, ?_⟩
    unfold upTo at ez
    rw [List.getElem?_map] at ez
    obtain ⟨k, e1, rfl⟩ := Option.map_eq_some_iff.mp ez
    rw [List.getElem?_eq_some_iff] at e1
    obtain ⟨_, e1⟩ := e1
    rw [List.getElem_range] at e1
    subst e1
    exact relInt.mpr rfl
  held := fun i vw' x H' l ok y _ a _ => by rw [y.1]
/-- an int that may bound a walk -/
def inW (i : Int) : Bool := match i with
  | .ofNat n => Nat.ble n 1000000000
  | .negSucc n => Nat.ble n 1000000000
theorem inW_b {i : Int} (h : inW i = true) : -(2 ^ 62) ≤ i ∧ i < 2 ^ 62 := by
  cases i with
  | ofNat n =>
    have h := Nat.le_of_ble_eq_true h
    constructor <;> (simp only [Int.ofNat_eq_natCast]; omega)
  | negSucc n =>
    have h := Nat.le_of_ble_eq_true h
    constructor <;> (simp only [Int.negSucc_eq]; omega)
theorem inW_nat {n : Nat} (h : n ≤ 1000000000) : inW (n : Int) = true := Nat.ble_eq_true_of_le h
def rRange1 (t : RA) : RI := fun env st => (t env st).bind fun xs st1 => match xs with
  | [.p (.int j)] => bif inW j then .ok (upTo 0 j.toNat) st1 else .no
  | _ => .no
def rRange2 (t : RA) : RI := fun env st => (t env st).bind fun xs st1 => match xs with
  | [.p (.int i), .p (.int j)] => bif inW i && inW j then .ok (upTo i (j - i).toNat) st1 else .no
  | _ => .no
theorem pxi_range1 {a : Expr} {t : RA} {p : Pos} (hg : Gl X "range") (hm : X.mg "range" = none) (ha : PXA X G E [a] t) (hs : starEach [a] X.env = [(false, eval a X.env)] := by rfl) : PXI X G E tg (.Call (.Name "range" p) [a] [] pos) (rRange1 t) :=
  (pi_range1 hg hm ha hs).weak fun σ H R ⟨vw, env, eH, ok, re, q⟩ => by
    refine ⟨vw, env, eH, ok, re, (GQ.bind q).imp fun vw1 x l1 ok1 q1 vs rs => ?_⟩
    split at q1
    · obtain ⟨v, r, rfl, r1, rfl⟩ := rs
      rename_i j
      cases hj : inW j with
      | true =>
        rw [hj, cond_true] at q1
        exact ⟨_, by rw [RelVV.int r1], (inW_b hj).1, (inW_b hj).2, q1 vw1 .rfl' ok1 rfl _ _ ⟨vw1, rfl, .rfl', ok1, rfl, it_range⟩⟩
      | false => rw [hj] at q1; exact q1.elim
    · exact q1.elim
theorem pxi_range2 {a b : Expr} {t : RA} {p : Pos} (hg : Gl X "range") (hm : X.mg "range" = none) (ha : PXA X G E [a, b] t) (hs : starEach [a, b] X.env = [(false, eval a X.env), (false, eval b X.env)] := by rfl) (hs2 : starEach [b] X.env = [(false, eval b X.env)] := by rfl) : PXI X G E tg (.Call (.Name "range" p) [a, b] [] pos) (rRange2 t) :=
  (pi_range2 hg hm ha hs hs2).weak fun σ H R ⟨vw, env, eH, ok, re, q⟩ => by
    refine ⟨vw, env, eH, ok, re, (GQ.bind q).imp fun vw1 x l1 ok1 q1 vs rs => ?_⟩
    split at q1
    · obtain ⟨v, r, rfl, r1, v2, r', rfl, r2, rfl⟩ := rs
      rename_i i j
      cases hj : inW i && inW j with
      | true =>
        rw [hj, cond_true] at q1
        have hj := Bool.and_eq_true_iff.mp hj
        exact ⟨_, _, by rw [RelVV.int r1, RelVV.int r2], ⟨(inW_b hj.1).1, (inW_b hj.1).2, (inW_b hj.2).1, (inW_b hj.2).2⟩, q1 vw1 .rfl' ok1 rfl _ _ ⟨vw1, rfl, .rfl', ok1, rfl, it_range⟩⟩
      | false => rw [hj] at q1; exact q1.elim
    · exact q1.elim
/-! ### list comprehensions -/
def wipeE (env : EE) : List Nat → EE
  | [] => env
  | v :: vs => (wipeE env vs).set v none
theorem RepE.wipe {w : World} {K : PySem.W.Frag} {vw : Vw} {env : EE} {σ : SSt} (h : RepE w K G vw env σ) : ∀ vs : List Nat, RepE w K G vw (wipeE env vs) (L2.wipe σ vs)
  | [] => h
  | v :: vs => by
    have ih := RepE.wipe h vs
    unfold wipeE L2.wipe
    refine ⟨by simpa using ih.1, fun i x e => ?_⟩
    by_cases hi : v = i
    · subst hi
      by_cases hl : v < (wipeE env vs).length
      · rw [List.getElem?_set_self hl] at e; cases e
      · rw [List.getElem?_eq_none (by simpa using hl)] at e; cases e
    · rw [List.getElem?_set_ne hi] at e
      obtain ⟨u, e1, r1⟩ := ih.2 i x e
      exact ⟨u, by rw [List.getElem?_set_ne hi]; exact e1, r1⟩
/-- no exception is wished for -/
abbrev noE : WE := fun _ _ _ _ => False
/-- no exception -/
def Res.nox {α : Type} (r : Res α) : Res α := match r with
  | .ok x st => .ok x st
  | _ => .no
theorem GQ.nox {w : World} {K : PySem.W.Frag} {α : Type} {vw : Vw} {E1 E2 : Vw → Nat → List PV → Prop} {r : Res α} {Q : Vw → α → Prop} (h : GQ w K G vw E1 r.nox Q) : GQ w K G vw E2 r Q := by
  cases r with
  | ok x st => exact h
  | ex c us st => exact h.elim
  | no => exact h.elim
theorem GQ.noxb {w : World} {K : PySem.W.Frag} {α β : Type} {vw : Vw} {E1 E2 : Vw → Nat → List PV → Prop} {r : Res α} {k : α → Sto → Res β} {Q : Vw → β → Prop} (h : GQ w K G vw E1 (r.nox.bind k) Q) : GQ w K G vw E2 r fun vw1 x => GQ w K G vw1 E1 (k x vw1.st) Q := by
  cases r with
  | ok x st => exact GQ.bind (r := .ok x st) h
  | ex c us st => exact h.elim
  | no => exact h.elim
theorem Res.bind_bind {α β γ : Type} (r : Res α) (f : α → Sto → Res β) (k : β → Sto → Res γ) : (r.bind f).bind k = r.bind fun x st => (f x st).bind k := by
  cases r <;> rfl
theorem wipe_wipe (σ : SSt) (vs : List Nat) : L2.wipe (L2.wipe σ vs) vs = L2.wipe σ vs := by
  apply List.ext_getElem?
  intro i
  have hv : ∀ (σ : SSt) (vs : List Nat), i ∈ vs → i < σ.length → (L2.wipe σ vs)[i]? = some none := by
    intro σ vs
    induction vs with
    | nil => intro h; exact absurd h (by simp)
    | cons v vs ih =>
      intro h hl
      show (List.set (L2.wipe σ vs) v none)[i]? = _
      have hl' : i < List.length (L2.wipe σ vs) := by rw [wipe_length]; exact hl
      by_cases e : v = i
      · subst e
        rw [List.getElem?_set_self hl']
      · rw [List.getElem?_set_ne e]
        exact ih ((List.mem_cons.mp h).resolve_left fun q => e q.symm) hl
  by_cases hi : i ∈ vs
  · by_cases hl : i < σ.length
    · rw [hv _ vs hi (by rw [wipe_length]; exact hl), hv σ vs hi hl]
    · rw [List.getElem?_eq_none (by rw [wipe_length, wipe_length]; omega), List.getElem?_eq_none (by rw [wipe_length]; omega)]
  · rw [wipe_out hi]
theorem Apart.yld {w : World} {K : PySem.W.Frag} {vw vw4 : Vw} {D : Addr} (d : Apart vw D) (l : Le K vw vw4) (es : vw4.st = vw.st) (hz : ∀ a, vw4.Z a → vw.Z a) (e : vw4.H D = vw.H D) : Apart vw4 D :=
  ⟨by rw [e]; exact d.nn, fun z => d.nz (hz D z), by rw [l.f]; exact d.nf, fun n o q z => by
    rw [es] at q
    rw [l.al n (List.getElem?_eq_some_iff.mp q).1] at z
    exact d.nl n o q z, fun ps => by rw [e]; exact d.nt ps⟩
theorem relVV_hold {w : World} {K : PySem.W.Frag} {vw : Vw} {D : Addr} {x : VV} {v : V} : RelVV w K G (vw.hold D) x v ↔ RelVV w K G vw x v := by
  cases x <;> exact Iff.rfl
def lcGo (g : Tg) (t : RT) (r : RX) : List PV → List PV → EE → Sto → Res (List PV)
  | [], acc, _, st => .ok acc st
  | x :: xs, acc, env, st => match g.set (.p x) env with
    | none => .no
    | some e => (t e st).nox.bind fun b st1 => if b = true then (r e st1).nox.bind fun z st2 => (match z with
        | .p z => if acc.length < 16777216 then lcGo g t r xs (acc ++ [z]) env st2 else .no
        | _ => .no) else lcGo g t r xs acc env st1
/-- the list of a comprehension, its own names at vs -/
def lcR (vs : List Nat) (ri : RI) (g : Tg) (t : RT) (r : RX) : EE → Sto → Res (List PV) := fun env st => (ri env st).bind fun xs st1 => lcGo g t r xs [] (wipeE env vs) st1
/-- the list as a value -/
def rLc (vs : List Nat) (ri : RI) (g : Tg) (t : RT) (r : RX) : RX := fun env st => (lcR vs ri g t r env st).bind fun ys st1 => .ok (.p (.lst ys)) st1
/-- the list as an object of the store -/
def rLcM (vs : List Nat) (ri : RI) (g : Tg) (t : RT) (r : RX) : RX := fun env st => (lcR vs ri g t r env st).bind fun ys st1 => .ok (.ref st1.length) (st1 ++ [some (.lst false ys)])
/-- what becomes of the new list -/
abbrev MkOk (w : World) (K : PySem.W.Frag) (G : Nat → Addr) (E : Vw → Nat → List PV → Prop) (mk : List PV → Sto → Res VV) : Prop := ∀ (Q : VK) (ys : List PV) (vw : Vw) (D : Addr) (us : List V), VOk w K G vw → Apart vw D → vw.H D = some (.lst us) → us.length ≤ sizeLine → RelPs w K G vw.H vw.Z ys us →
  GQ w K G vw E (mk ys vw.st) (fun vw' x => ∀ v, RelVV w K G vw' x v → Q v vw'.H) → Q (.ref D) vw.H
/-- the comprehension's turns -/
theorem lc_read {w : World} {K : PySem.W.Frag} {vs : List Nat} {σ : SSt} {H : Hp} {Q : VK} (hsl : ∀ i ∈ g.slots, i ∈ vs) (mk : List PV → Sto → Res VV)
    (hmk : ∀ E, MkOk w K G E mk)
    (h : tE w K G E (fun env st => (lcR vs ri g rt ra env st).bind mk) σ H Q) : tLc (tI w K G E ri) (g.rd K) (tT w K G noE rt) (tE w K G noE ra) vs σ H Q := by
  obtain ⟨vw0, env, eH, ok0, re0, q⟩ := h
  have q : GQ w K G vw0 (fun vw' => E vw' env) ((ri env vw0.st).bind fun xs st1 => (lcGo g rt ra xs [] (wipeE env vs) st1).bind mk) (fun vw' x => ∀ v, RelVV w K G vw' x v → Q v vw'.H) := by
    rw [← Res.bind_bind]; exact q
  refine ⟨vw0, env, eH, ok0, re0, (GQ.bind q).imp fun vw1 xs l1 ok1 q1 J H1 ⟨vw2, eH2, l2, ok2, es2, it⟩ => fun D hD => ?_⟩
  subst eH2
  have re2 : RepE w K G vw2 env σ := (re0.mono l1).mono l2
  obtain ⟨l3, ok3, d3⟩ := newApart (o := .lst []) ok2 hD
  have hs : ∀ {vw : Vw}, Le K (vw2.grow D (.lst []) False) vw → RepE w K G vw (wipeE env vs) (L2.wipe σ vs) := fun l => ((re2.mono l3).mono l).wipe vs
  refine ⟨fun i m H => m = xs.length - i ∧ i ≤ xs.length ∧ ∃ vw acc us, vw.H = H ∧ VOk w K G vw ∧ Le K (vw2.grow D (.lst []) False) vw ∧ Apart vw D ∧ vw.H D = some (.lst us) ∧ us.length ≤ sizeLine ∧ RelPs w K G vw.H vw.Z acc us ∧
      GQ w K G vw (fun vw' => E vw' env) ((lcGo g rt ra (xs.drop i) acc (wipeE env vs) vw.st).bind mk) (fun vw' x => ∀ v, RelVV w K G vw' x v → Q v vw'.H),
    ⟨xs.length, by simp, Nat.zero_le _, vw2.grow D (.lst []) False, [], [], rfl, ok3, .rfl', d3, upd_same, Nat.zero_le _, RelPs.nil, ?_⟩, ?_⟩
  · rw [List.drop_zero]
    rw [← es2] at q1
    exact GQ.back (l2.trans l3) q1
  rintro i m H ⟨rfl, hi, vw, acc, us, rfl, ok, l, d, hDl, hus, rus, q⟩
  by_cases hlt : i < xs.length
  · have ed : xs.drop i = xs[i] :: xs.drop (i + 1) := List.drop_eq_getElem_cons hlt
    have l23 := l3.trans l
    refine .inr ⟨it.go i vw l23.lz ok hlt, fun H' => i + 1 ≤ xs.length ∧ ∃ vw acc us, vw.H = H' ∧ VOk w K G vw ∧ Le K (vw2.grow D (.lst []) False) vw ∧ Apart vw D ∧ vw.H D = some (.lst us) ∧ us.length ≤ sizeLine ∧ RelPs w K G vw.H vw.Z acc us ∧
      GQ w K G vw (fun vw' => E vw' env) ((lcGo g rt ra (xs.drop (i + 1)) acc (wipeE env vs) vw.st).bind mk) (fun vw' x => ∀ v, RelVV w K G vw' x v → Q v vw'.H),
      fun H' n => ⟨xs.length - (i + 1), by omega, rfl, n⟩, fun x H' y => ?_⟩
    have hh := it.held i vw x H' l23.lz ok y hlt D d.nn
    obtain ⟨vw4, rfl, l4, ok4, es4, hz4, r4⟩ := it.yld i vw x H' l23.lz ok y xs[i] (List.getElem?_eq_getElem hlt)
    have d4 : Apart vw4 D := Apart.yld (w := w) d l4 es4 hz4 hh
    rw [ed, lcGo, ← es4] at q
    cases hge : g.set (.p xs[i]) (wipeE env vs) with
    | none => rw [hge] at q; exact q.elim
    | some e =>
      rw [hge] at q
      dsimp only at q
      rw [Res.bind_bind] at q
      refine Tg.read g (.p xs[i]) x (wipeE env vs) e (L2.wipe σ vs) r4 (hs (l.trans l4)) hge fun σ2 re2 hw => ⟨by rw [hw vs hsl, wipe_wipe], ?_⟩
      have reH : RepE w K G (vw4.hold D) e σ2 := ⟨re2.1, fun i x h => let ⟨v, a, b⟩ := re2.2 i x h; ⟨v, a, relVV_hold.mpr b⟩⟩
      refine ⟨vw4.hold D, e, rfl, ok4.hold d4, reH, ?_⟩
      show GQ w K G (vw4.hold D) _ (rt e vw4.st) _
      generalize rt e vw4.st = r1 at q
      cases r1 with
      | ex c us st => exact q.elim
      | no => exact q.elim
      | ok b st1 =>
        intro vw5 l5 ok5 es5
        have o5 := VOk.unhold l5 ok5
        obtain ⟨d5, e5⟩ := d4.still l5 ok5
        have l45 := Le.unhold l5
        have q : GQ w K G vw (fun vw' => E vw' env) ((if b = true then (ra e st1).nox.bind fun z st2 => (match z with
          | .p z => if acc.length < 16777216 then lcGo g rt ra (xs.drop (i + 1)) (acc ++ [z]) (wipeE env vs) st2 else .no
          | _ => .no) else lcGo g rt ra (xs.drop (i + 1)) acc (wipeE env vs) st1).bind mk) (fun vw' x => ∀ v, RelVV w K G vw' x v → Q v vw'.H) := q
        cases b with
        | false =>
          exact ⟨hlt, vw5.unhold vw4.F, acc, us, rfl, o5, (l.trans l4).trans l45, d5, by show vw5.H D = _; rw [e5, hh]; exact hDl, hus, (l4.trans l45).ps rus, by
            show GQ w K G _ _ ((lcGo g rt ra (xs.drop (i + 1)) acc (wipeE env vs) vw5.st).bind mk) _
            rw [es5]
            exact GQ.back (l4.trans l45) q⟩
        | true =>
          have q : GQ w K G vw (fun vw' => E vw' env) (((ra e st1).nox.bind fun z st2 => (match z with
            | .p z => if acc.length < 16777216 then lcGo g rt ra (xs.drop (i + 1)) (acc ++ [z]) (wipeE env vs) st2 else .no
            | _ => .no)).bind mk) (fun vw' x => ∀ v, RelVV w K G vw' x v → Q v vw'.H) := q
          rw [Res.bind_bind, ← es5] at q
          refine ⟨vw5, e, rfl, ok5, reH.mono l5, ?_⟩
          generalize ra e vw5.st = r2 at q
          cases r2 with
          | ex c us st => exact q.elim
          | no => exact q.elim
          | ok z st2 =>
            intro vw6 l6 ok6 es6 v rv
            have l46 := l5.trans l6
            have o6 := VOk.unhold l46 ok6
            obtain ⟨d6, e6⟩ := d4.still l46 ok6
            cases z with
            | ref n => exact q.elim
            | p z =>
              have q : GQ w K G vw (fun vw' => E vw' env) ((if acc.length < 16777216 then lcGo g rt ra (xs.drop (i + 1)) (acc ++ [z]) (wipeE env vs) st2 else .no).bind mk) (fun vw' x => ∀ v, RelVV w K G vw' x v → Q v vw'.H) := q
              split at q
              · rename_i hac
                have hD6 : vw6.H D = some (.lst us) := by rw [e6]; exact hh.trans hDl
                have lt : us.length < sizeLine := by rw [← rus.len]; exact hac
                have lp := Le.put (K := K) (o := .lst (us ++ [v])) d6 hD6 rfl
                have op := VOk.put (o := .lst (us ++ [v])) o6 d6 hD6 rfl
                have l4p := l4.trans ((Le.unhold l46).trans lp)
                exact ⟨us, hD6, lt, hlt, (vw6.unhold vw4.F).put D (.lst (us ++ [v])), acc ++ [z], us ++ [v], rfl, op, l.trans l4p, d6.put, upd_same, by rw [List.length_append]; exact lt,
                  (l4p.ps rus).app (RelPs.cons (lp.p rv) RelPs.nil), by
                    show GQ w K G _ _ ((lcGo g rt ra (xs.drop (i + 1)) (acc ++ [z]) (wipeE env vs) vw6.st).bind mk) _
                    rw [es6]
                    exact GQ.back l4p q⟩
              · exact q.elim
  · have e : i = xs.length := by omega
    subst e
    rw [List.drop_length, lcGo] at q
    exact .inl ⟨it.stop _ vw (l3.trans l).lz ok rfl, hmk _ Q acc vw D us ok d hDl hus rus q⟩
end
end Ev
end S_Ev8
section S_Ev9
namespace Ev
open PySem PySem.Spec PyProof.Rows L2
/-! ### comprehensions -/
section
variable {w : World} {K : PySem.W.Frag} {G : Nat → Addr} {vw vw1 vw2 : Vw}
/-- what is held apart becomes an object of the store -/
def Vw.adopt (vw : Vw) (p : Addr) (ob : Ob) : Vw := { vw with al := fun n => if n = vw.st.length then p else vw.al n, st := vw.st ++ [some ob] }
theorem Le.adopt {p : Addr} {ob : Ob} : Le K vw (vw.adopt p ob) where
  z := fun _ h => h
  zr := fun a u _ h => h
  ze := fun a o' _ _ h => h
  f := rfl
  fr := fun a h => rfl
  tu := fun a vs h => h
  al := fun m h => by show (if m = vw.st.length then p else vw.al m) = _; rw [if_neg (Nat.ne_of_lt h)]
  len := by show _ ≤ (vw.st ++ [some ob]).length; simp
  fz := fun _ _ _ h => h
theorem VOk.adopt {p : Addr} {ob : Ob} (ok : VOk w K G vw) (d : Apart vw p) (h : OkOb w K G vw p ob) : VOk w K G (vw.adopt p ob) := by
  have cs : ∀ m b, (vw.st ++ [some ob])[m]? = some (some b) → (m < vw.st.length ∧ vw.st[m]? = some (some b) ∧ (vw.adopt p ob).al m = vw.al m) ∨ (m = vw.st.length ∧ b = ob ∧ (vw.adopt p ob).al m = p) := fun m b e => by
    by_cases hm : m < vw.st.length
    · rw [List.getElem?_append_left hm] at e
      exact .inl ⟨hm, e, if_neg (Nat.ne_of_lt hm)⟩
    · rw [List.getElem?_append_right (by omega)] at e
      by_cases h2 : m = vw.st.length
      · subst h2
        simp at e
        exact .inr ⟨rfl, e.symm, if_pos rfl⟩
      · rw [List.getElem?_eq_none (by simp; omega)] at e
        cases e
  refine ⟨ok.zf, ok.fn, ok.zn, fun m b e => ?_, fun m b e => ?_, fun m m' b b' e e' q => ?_, ok.tab⟩
  · rcases cs m b e with ⟨_, e1, e2⟩ | ⟨_, rfl, e2⟩
    · rw [e2]
      exact (ok.ob m b e1).mono Le.adopt rfl
    · rw [e2]; exact h.mono Le.adopt rfl
  · rcases cs m b e with ⟨_, e1, e2⟩ | ⟨_, rfl, e2⟩
    · rw [e2]; exact ok.nz m b e1
    · rw [e2]; exact ⟨d.nz, d.nf⟩
  · rcases cs m b e with ⟨l1, e1, e2⟩ | ⟨l1, rfl, e2⟩ <;> rcases cs m' b' e' with ⟨l3, e3, e4⟩ | ⟨l3, rfl, e4⟩
    · rw [e2, e4] at q; exact ok.inj m m' b b' e1 e3 q
    · rw [e2, e4] at q; exact absurd q (d.nl m b e1)
    · rw [e2, e4] at q; exact absurd q.symm (d.nl m' b' e3)
    · rw [l1, l3]
theorem Apart.keep {D : Addr} (ok : VOk w K G vw) (d : Apart vw D) : Le K vw (vw.keep D) ∧ VOk w K G (vw.keep D) := ⟨Le.keep, VOk.keep ok d.nn d.nf d.nl d.nt⟩
theorem mk_val : ∀ E, MkOk w K G E (fun ys st1 => .ok (.p (.lst ys)) st1) := fun E Q ys vw D us ok d hD hl r q => by
  obtain ⟨l, o⟩ := Apart.keep ok d
  exact q (vw.keep D) l o rfl _ (relLst.mpr ⟨D, us, rfl, .inr rfl, hD, hl, l.ps r⟩)
theorem mk_ob : ∀ E, MkOk w K G E (fun ys st1 => .ok (.ref st1.length) (st1 ++ [some (.lst false ys)])) := fun E Q ys vw D us ok d hD hl r q => by
  exact q (vw.adopt D (.lst false ys)) Le.adopt (VOk.adopt ok d ⟨us, hD, hl, r⟩) rfl _ ⟨by show _ < (vw.st ++ [_]).length; simp, by show V.ref D = .ref (if _ then D else _); rw [if_pos rfl]⟩
end
theorem _root_.L2.PTs.weak {X : Cx} {e : List Expr} {t t' : TT} (h : PTs X e t) (f : ∀ σ H Q, t' σ H Q → t σ H Q) : PTs X e t' := ⟨fun pins s σ H Q I q => h.run pins s σ H Q I (f σ H Q q)⟩
def rYes : RT := fun _ st => .ok true st
abbrev PXIf (X : Cx) (G : Nat → Addr) (E : WE) (es : List Expr) (r : RT) : Prop := PTs X es (tT X.w X.K G E r)
section
variable {X : Cx} {G : Nat → Addr} {E : WE} {pos : Pos} {elt tg it : Expr} {ifs : List Expr} {ri ri' : RI} {g g' : Tg} {ra : RX} {rt rt' : RT}
theorem pxif_nil : PXIf X G E [] rYes := pts_nil.weak fun σ H Q ⟨vw, env, eH, ok, re, q⟩ => by
  subst eH
  exact q vw .rfl' ok rfl
theorem pxif_one {c : Expr} (h : PXT X G E c rt) : PXIf X G E [c] rt := pts_one h
theorem px_lc {scope : Scope} (own : List (Str × Nat)) (hc : X.calm = true) (hN : X.N.Nodup) (hi : PXI X G E tg it ri) (ok : BlkOk X.N X.env.scope scope own) (hsl : ∀ i ∈ g.slots, i ∈ own.map (·.2))
    (hg : ∀ (s : Shared) (H : Hp) (C : Addr) (cl : List (Str × Addr)) (fp : List Addr), PXG (X.blk s H scope (compEnvC scope cl C X.env) fp) tg g) (ht : ∀ (s : Shared) (H : Hp) (C : Addr) (cl : List (Str × Addr)) (fp : List Addr), PXIf (X.blk s H scope (compEnvC scope cl C X.env) fp) G noE ifs rt)
    (he : ∀ (s : Shared) (H : Hp) (C : Addr) (cl : List (Str × Addr)) (fp : List Addr), PX (X.blk s H scope (compEnvC scope cl C X.env) fp) G noE elt ra) (hs : ∀ x, foldedSetIterable it X.env x = pure x := by intro _; rfl) :
    PX X G E (.ListComp elt [⟨tg, it, ifs, 0⟩] scope pos) (rLc (own.map (·.2)) ri g rt ra) :=
  (pe_lc hc hN hi ok hg ht he hs).weak fun σ H Q h => lc_read hsl _ mk_val h
theorem px_lcM {scope : Scope} (own : List (Str × Nat)) (hc : X.calm = true) (hN : X.N.Nodup) (hi : PXI X G E tg it ri) (ok : BlkOk X.N X.env.scope scope own) (hsl : ∀ i ∈ g.slots, i ∈ own.map (·.2))
    (hg : ∀ (s : Shared) (H : Hp) (C : Addr) (cl : List (Str × Addr)) (fp : List Addr), PXG (X.blk s H scope (compEnvC scope cl C X.env) fp) tg g) (ht : ∀ (s : Shared) (H : Hp) (C : Addr) (cl : List (Str × Addr)) (fp : List Addr), PXIf (X.blk s H scope (compEnvC scope cl C X.env) fp) G noE ifs rt)
    (he : ∀ (s : Shared) (H : Hp) (C : Addr) (cl : List (Str × Addr)) (fp : List Addr), PX (X.blk s H scope (compEnvC scope cl C X.env) fp) G noE elt ra) (hs : ∀ x, foldedSetIterable it X.env x = pure x := by intro _; rfl) :
    PX X G E (.ListComp elt [⟨tg, it, ifs, 0⟩] scope pos) (rLcM (own.map (·.2)) ri g rt ra) :=
  (pe_lc hc hN hi ok hg ht he hs).weak fun σ H Q h => lc_read hsl _ mk_ob h
theorem lc_asg {vs : List Nat} {i : Nat} {mk : List PV → Sto → Res VV} {D : Ends} {σ : SSt} {H : Hp} (hsl : ∀ i ∈ g.slots, i ∈ vs) (hmk : ∀ E, MkOk X.w X.K G E mk)
    (h : tS X.w X.K G E (sAsg (fun env st => (lcR vs ri g rt ra env st).bind mk) (.nm i)) D σ H) : tAsg (tLc (tI X.w X.K G E ri) (g.rd X.K) (tT X.w X.K G noE rt) (tE X.w X.K G noE ra) vs) (gName i) D σ H := by
  have h := asg_read h
  exact lc_read (E := E) hsl mk hmk h
theorem pxs_setLc {i : Nat} {y : Str} {py spos : Pos} {scope : Scope} (own : List (Str × Nat)) (hc : X.calm = true) (hN : X.N.Nodup) (hy : X.N[i]? = some y) (hyl : X.env.scope.names.lookup y = some .local)
    (hsw : swapsWith (.ListComp elt [⟨tg, it, ifs, 0⟩] scope pos) (some (.Name y py)) spos.line X.env = pure true) (hi : PXI X G E tg it ri) (ok : BlkOk X.N X.env.scope scope own) (hsl : ∀ i ∈ g.slots, i ∈ own.map (·.2))
    (hg : ∀ (s : Shared) (H : Hp) (C : Addr) (cl : List (Str × Addr)) (fp : List Addr), PXG (X.blk s H scope (compEnvC scope cl C X.env) fp) tg g) (ht : ∀ (s : Shared) (H : Hp) (C : Addr) (cl : List (Str × Addr)) (fp : List Addr), PXIf (X.blk s H scope (compEnvC scope cl C X.env) fp) G noE ifs rt)
    (he : ∀ (s : Shared) (H : Hp) (C : Addr) (cl : List (Str × Addr)) (fp : List Addr), PX (X.blk s H scope (compEnvC scope cl C X.env) fp) G noE elt ra) (hs : ∀ x, foldedSetIterable it X.env x = pure x := by intro _; rfl) :
    PXS X G E (.Assign [.Name y py] (.ListComp elt [⟨tg, it, ifs, 0⟩] scope pos) spos) (sAsg (rLc (own.map (·.2)) ri g rt ra) (.nm i)) :=
  (ps_setLc hc hN hy hyl hsw hi ok hg ht he hs).weak fun D σ H h => lc_asg hsl mk_val h
theorem pxs_setLcM {i : Nat} {y : Str} {py spos : Pos} {scope : Scope} (own : List (Str × Nat)) (hc : X.calm = true) (hN : X.N.Nodup) (hy : X.N[i]? = some y) (hyl : X.env.scope.names.lookup y = some .local)
    (hsw : swapsWith (.ListComp elt [⟨tg, it, ifs, 0⟩] scope pos) (some (.Name y py)) spos.line X.env = pure true) (hi : PXI X G E tg it ri) (ok : BlkOk X.N X.env.scope scope own) (hsl : ∀ i ∈ g.slots, i ∈ own.map (·.2))
    (hg : ∀ (s : Shared) (H : Hp) (C : Addr) (cl : List (Str × Addr)) (fp : List Addr), PXG (X.blk s H scope (compEnvC scope cl C X.env) fp) tg g) (ht : ∀ (s : Shared) (H : Hp) (C : Addr) (cl : List (Str × Addr)) (fp : List Addr), PXIf (X.blk s H scope (compEnvC scope cl C X.env) fp) G noE ifs rt)
    (he : ∀ (s : Shared) (H : Hp) (C : Addr) (cl : List (Str × Addr)) (fp : List Addr), PX (X.blk s H scope (compEnvC scope cl C X.env) fp) G noE elt ra) (hs : ∀ x, foldedSetIterable it X.env x = pure x := by intro _; rfl) :
    PXS X G E (.Assign [.Name y py] (.ListComp elt [⟨tg, it, ifs, 0⟩] scope pos) spos) (sAsg (rLcM (own.map (·.2)) ri g rt ra) (.nm i)) :=
  (ps_setLc hc hN hy hyl hsw hi ok hg ht he hs).weak fun D σ H h => lc_asg hsl mk_ob h
end
end Ev
end S_Ev9
section S_Ev10
namespace Ev
open PySem PySem.Spec PyProof.Rows L2
/-! ### exceptions as values -/
def XRep (w : World) (K : PySem.W.Frag) (G : Nat → Addr) (vw : Vw) (c : Nat) (e : List PV) (cls : Value) (d : Option Addr) : Prop :=
  cls = .ref (G c) ∧ ∃ fs us dd vs, e = [.ins c fs us] ∧ d = some dd ∧ vw.H dd = some (.xd (fs.zip vs)) ∧ vs.length = fs.length ∧ RelPs w K G vw.H vw.Z us vs ∧ ¬ vw.F dd
/-- what a caller wants of an exception, in our words -/
def ewX (w : World) (K : PySem.W.Frag) (G : Nat → Addr) (E : XK) : Vw → Nat → List PV → Prop := fun vw c us => ∀ cls d, XRep w K G vw c us cls d → E cls d vw.H
/-- our wish in the layer's words -/
def wxE (w : World) (K : PySem.W.Frag) (G : Nat → Addr) (E : WE) : WX := fun cls d σ H => ∃ vw env c us, vw.H = H ∧ VOk w K G vw ∧ RepE w K G vw env σ ∧ XRep w K G vw c us cls d ∧ E vw env c us
/-- the wish of a body -/
abbrev bodyE (w : World) (K : PySem.W.Frag) (G : Nat → Addr) (E : XK) : WE := fun vw _ c us => ewX w K G E vw c us
theorem takes_imp {X : Cx} {W W' : WX} (tk : Takes X W) (h : ∀ cls d σ H, W' cls d σ H → W cls d σ H) : Takes X W' := fun u s' x => by
  obtain ⟨a, B, sI, pins, σ, H, cls, d, e, I, nb, up, sky, na, os, ag, w⟩ := x
  exact tk u s' ⟨a, B, sI, pins, σ, H, cls, d, e, I, nb, up, sky, na, os, ag, h _ _ _ _ w⟩
theorem takes_no {X : Cx} {G : Nat → Addr} : Takes X (wxE X.w X.K G noE) := takes_imp takes0 fun _ _ _ _ ⟨_, _, _, _, _, _, _, _, z⟩ => z
/-! ### what a def promises -/
abbrev MF := List VV → Sto → Res VV
def spM (w : World) (K : PySem.W.Frag) (G : Nat → Addr) (n : Nat) (F : MF) : Sp := fun vs H Q E => vs.length = n ∧ ∃ vw xs, vw.H = H ∧ VOk w K G vw ∧ RelVs w K G vw xs vs ∧
  GQ w K G vw (ewX w K G E) (F xs vw.st) fun vw' x => ∀ v, RelVV w K G vw' x v → Q v vw'.H
def envOf (n : Nat) (xs : List VV) : EE := xs.map some ++ List.replicate (n - xs.length) none
/-- a body as a function; n: how many names it has -/
def fnM (n : Nat) (b : RS) : MF := fun xs st => match b (envOf n xs) st with
  | .nx _ st' => .ok (.p .non) st'
  | .rt x st' => .ok x st'
  | .ex c us _ st' => .ex c us st'
  | _ => .no
section
variable {P : Program} {w : World} {K : PySem.W.Frag} {mg : Str → Option Value} {base : Heap} {G : Nat → Addr} {vw vw1 : Vw}
theorem RelVs.len : ∀ {xs : List VV} {vs : List V}, RelVs w K G vw xs vs → xs.length = vs.length
  | [], vs, h => by rw [show vs = [] from h]; rfl
  | x :: xs, _, h => by
    obtain ⟨v, r, rfl, _, h2⟩ := h
    rw [List.length_cons, List.length_cons, RelVs.len h2]
theorem RelVs.get : ∀ {xs : List VV} {vs : List V} {i : Nat} {x : VV}, RelVs w K G vw xs vs → xs[i]? = some x → ∃ v, vs[i]? = some v ∧ RelVV w K G vw x v
  | [], _, i, x, h, e => by simp at e
  | y :: xs, _, 0, x, h, e => by
    obtain ⟨v, r, rfl, h1, h2⟩ := h
    simp at e
    subst e
    exact ⟨v, rfl, h1⟩
  | y :: xs, _, i + 1, x, h, e => by
    obtain ⟨v, r, rfl, h1, h2⟩ := h
    simp at e
    obtain ⟨u, e1, r1⟩ := RelVs.get h2 e
    exact ⟨u, by simpa using e1, r1⟩
theorem rep_start {N : List Str} {xs : List VV} {vs : List V} (r : RelVs w K G vw xs vs) : RepE w K G vw (envOf N.length xs) (L2.start N vs) := by
  have hl := r.len
  refine ⟨by unfold envOf L2.start; simp [hl], fun i x e => ?_⟩
  unfold envOf at e
  by_cases hi : i < xs.length
  · rw [List.getElem?_append_left (by simpa using hi), List.getElem?_map] at e
    cases q : xs[i]? with
    | none => rw [q] at e; cases e
    | some y =>
      rw [q] at e
      cases e
      obtain ⟨v, e1, r1⟩ := r.get q
      refine ⟨v, ?_, r1⟩
      unfold L2.start
      rw [List.getElem?_append_left (by simpa [← hl] using hi), List.getElem?_map, e1]
      rfl
  · rw [List.getElem?_append_right (by simpa using hi), List.getElem?_replicate] at e
    split at e <;> cases e
/-- a body keeps its promise -/
theorem fn_body {x qual : Str} {st : Stmt} {f : Addr} {fd : FuncData} {N ps : List Str} {k : Nat} {rs : RS} (F : Fun K x qual st f fd) (S : FnScope N ps (defScope st))
    (hbody : ∀ (cdv : Value) (A : Around) (outer : List Env) (s : Shared) (H : Hp) (E : XK), Room k (A.deeper (envOfC qual (defScope st) s.heap.objs.size f cdv)) →
      Takes (cxOf (L2.CX P w) P w K mg base N qual (defScope st) f cdv A outer s H E) (wxE w K G (bodyE w K G E)) →
      PassesOwn (model P w) (A.deeper (envOfC qual (defScope st) s.heap.objs.size f cdv)) (envOfC qual (defScope st) s.heap.objs.size f cdv) (cxOf (L2.CX P w) P w K mg base N qual (defScope st) f cdv A outer s H E).xe →
      PXSs (cxOf (L2.CX P w) P w K mg base N qual (defScope st) f cdv A outer s H E) G (bodyE w K G E) (defBody st) rs) :
    FnOk P w K mg base (L2.CX P w) (k + 1) f fd ps (spM w K G ps.length (fnM N.length rs)) := by
  refine F.okX (N := N) S (fun vs H Q E h => h.1) fun cdv A outer s H vs Q E hr hsp => ?_
  obtain ⟨hl, vw, xs, eH, ok, r, q⟩ := hsp
  refine ⟨_, hbody cdv A outer s H E hr (takes_imp (takes_of rfl rfl rfl rfl) ?_) (passes_of rfl), vw, envOf N.length xs, eH, ok, rep_start r, ?_⟩
  · rintro cls d σ H' ⟨vw', env, c, us, rfl, ok', re', xr, h⟩
    exact h cls d xr
  · unfold fnM at q
    show GS w K G vw (bodyE w K G E) (rs (envOf N.length xs) vw.st) _
    generalize rs (envOf N.length xs) vw.st = r1 at q
    cases r1 with
    | nx e st' => exact fun vw' σ l o es _ => q vw' l o es _ (by rw [show RelVV w K G vw' (.p .non) V.non = RelP w K G vw'.H vw'.Z .non V.non from rfl, RelP])
    | rt x st' => exact fun vw' v l o es rv => q vw' l o es v rv
    | ex c us e st' => exact fun vw' l o es => q vw' l o es
    | bk e st' => exact q.elim
    | ct e st' => exact q.elim
    | no => exact q.elim
theorem fn_never {x qual : Str} {f : Addr} {fd : FuncData} {ps : List Str} {k n : Nat} : FnOk P w K mg base (L2.CX P w) k f fd ps (spM w K G n (fun _ _ => .no)) :=
  ⟨fun vs H Q E ⟨_, vw, xs, _, _, _, q⟩ => q.elim, fun A outer s H args us vs Q E _ _ _ _ ⟨_, vw, xs, _, _, _, q⟩ => q.elim⟩
end
/-! ### calls -/
def rCall (F : MF) (t : RA) : RX := fun env st => (t env st).bind fun xs st1 => F xs st1
section
variable {X : Cx} {G : Nat → Addr} {E : WE} {pos p apos : Pos} {x m : Str} {e o : Expr} {es : List Expr} {t : RA} {ra : RX} {F : MF} {k : Nat} {f C : Addr} {fd : FuncData} {ps : List Str}
theorem call_read {σ : SSt} {H : Hp} {Q : VK} {vw : Vw} {env : EE} {vs : List V} {xs : List VV} {n : Nat} (eH : vw.H = H) (ok : VOk X.w X.K G vw) (re : RepE X.w X.K G vw env σ) (hl : vs.length = n) (rs : RelVs X.w X.K G vw xs vs)
    (q : GQ X.w X.K G vw (fun vw' => E vw' env) (F xs vw.st) fun vw' x => ∀ v, RelVV X.w X.K G vw' x v → Q v vw'.H) : spM X.w X.K G n F vs H Q (L2.WE (wxE X.w X.K G E) σ) := by
  refine ⟨hl, vw, xs, eH, ok, rs, ?_⟩
  generalize F xs vw.st = r at q
  cases r with
  | ok x st => exact q
  | no => exact q.elim
  | ex c us st => exact fun vw' l o es cls d xr => ⟨vw', env, c, us, rfl, o, re.mono l, xr, q vw' l o es⟩
/-- the arguments are as many as the parameters -/
def rArity (n : Nat) (F : MF) : MF := fun xs st => if xs.length = n then F xs st else .no
theorem px_call {n : Nat} (hF : FnOk X.prog X.w X.K X.mg X.base (L2.CX X.prog X.w) k f fd ps (spM X.w X.K G n F)) (hr : Room k X.A) (hg : Gl X x) (hm : X.mg x = some (.ref f)) (hk : PySem.W.keepIn X.K (.ref f) = true) (hb : Binds X.K fd ps [])
    (tk : Takes X (wxE X.w X.K G E)) (ha : PXA X G E (e :: es) t) (hdb : (x == ("__debug__" : Str)) = false := by decide) (he : starEach (e :: es) X.env = (false, eval e X.env) :: starEach es X.env := by rfl) (hpl : (backTo pos (starEach es X.env)).any (·.1) = false := by rfl) :
    PX X G E (.Call (.Name x p) (e :: es) [] pos) (rCall (rArity n F) t) :=
  (pe_callS hF hr hg hm hk hb (fun σ => passAt tk σ) ha hdb he hpl).weak fun σ H Q ⟨vw, env, eH, ok, re, q⟩ => by
    refine ⟨vw, env, eH, ok, re, (GQ.bind q).imp fun vw1 xs l1 ok1 q1 vs rs => ?_⟩
    unfold rArity at q1
    split at q1
    · rename_i hn
      exact call_read rfl ok1 (re.mono l1) (by rw [← rs.len]; exact hn) rs q1
    · exact q1.elim
theorem px_call0 (hF : FnOk X.prog X.w X.K X.mg X.base (L2.CX X.prog X.w) k f fd ps (spM X.w X.K G 0 F)) (hr : Room k X.A) (hg : Gl X x) (hm : X.mg x = some (.ref f)) (hk : PySem.W.keepIn X.K (.ref f) = true) (hb : Binds X.K fd ps [])
    (tk : Takes X (wxE X.w X.K G E)) (hdb : (x == ("__debug__" : Str)) = false := by decide) : PX X G E (.Call (.Name x p) [] [] pos) (fun _ st => F [] st) := by
  refine ⟨fun pins s σ H Q I h => ?_⟩
  obtain ⟨vw, env, eH, ok, re, q⟩ := h
  refine wpAny_Call_Name_kw (ld_glob I hg hm ?_ hdb)
  exact PySem.W.callWith_K0 I.kIn hk (run_fnS (E := fun σ => L2.WE (wxE X.w X.K G E) σ) hF hr hb (passAt tk σ) I .nil (call_read (xs := []) eH ok re rfl rfl q))
/-- the class of what a method is called of: an instance of it, without an attribute of that name -/
def insOf (c : Nat) (m : Str) (st : Sto) : VV → Bool
  | .p (.ins c' fs _) => decide (c' = c) && !fs.contains m
  | .p _ => false
  | .ref n => match st[n]? with
    | some (some (.ins c' fs _)) => decide (c' = c) && !fs.contains m
    | _ => false
theorem lookup_zip_none {m : Str} {fs : List Str} {vs : List V} (h : fs.contains m = false) : (fs.zip vs).lookup m = none := by
  induction fs generalizing vs with
  | nil => rfl
  | cons f fs ih =>
    cases vs with
    | nil => rfl
    | cons v vs =>
      simp only [List.contains_cons, Bool.or_eq_false_iff] at h
      show List.lookup m ((f, v) :: fs.zip vs) = none
      rw [List.lookup, h.1]
      exact ih h.2
theorem insOf_rel {w : World} {K : PySem.W.Frag} {vw : Vw} {c : Nat} {z : VV} {v : V} (ok : VOk w K G vw) (h : insOf c m vw.st z = true) (r : RelVV w K G vw z v) : ∃ a dx fs, v = .ref a ∧ vw.H a = some (.ins (G c) dx fs) ∧ fs.lookup m = none := by
  unfold insOf at h
  split at h
  · rename_i c' fs us
    simp only [Bool.and_eq_true, decide_eq_true_eq, Bool.not_eq_true'] at h
    obtain ⟨rfl, h⟩ := h
    rw [show RelVV w K G vw (.p (.ins c' fs us)) v = RelP w K G vw.H vw.Z (.ins c' fs us) v from rfl, RelP] at r
    obtain ⟨a, dx, vs, e, _, h1, _⟩ := r
    exact ⟨a, dx, _, e, h1, lookup_zip_none h⟩
  · cases h
  · rename_i n
    split at h
    · rename_i c' fs us eo
      simp only [Bool.and_eq_true, decide_eq_true_eq, Bool.not_eq_true'] at h
      obtain ⟨rfl, h⟩ := h
      obtain ⟨dx, vs, h1, _⟩ := ok.ob n _ eo
      exact ⟨_, dx, _, r.2, h1, lookup_zip_none h⟩
    · cases h
def rMeth (c : Nat) (m : Str) (F : MF) (ra : RX) (t : RA) : RX := fun env st => (ra env st).bind fun z st1 => if insOf c m st1 z = true then (t env st1).bind fun xs st2 => F (z :: xs) st2 else .no
def tMethS (C : Addr) (m : Str) (sp : Sp) (E : SSt → XK) (ta : TE) (t : TA) : TE := fun σ H Q => ta σ H fun x H1 => ∃ a dx fs, x = .ref a ∧ H1 a = some (.ins C dx fs) ∧ fs.lookup m = none ∧ t σ H1 fun vs H2 => sp (x :: vs) H2 Q (E σ)
theorem pe_methS {sp : Sp} {CX : CXT} {E : SSt → XK} {ta : TE} {t : TA} {pl : Sem Bool} (he : PE X o ta) (c : Cls X.K C) (hm : Meth X.K C m f)
    (F : FnOk X.prog X.w X.K X.mg X.base CX k f fd ps sp) (hr : Room k X.A) (hb : Binds X.K fd ps []) (hx : ∀ σ, PassesAt CX X σ (E σ)) (ha : PA X (e :: es) t)
    (hst : starEach (e :: es) X.env = (false, eval e X.env) :: starEach es X.env := by rfl) (hpl : (backTo pos (starEach es X.env)).any (·.1) = false := by rfl)
    (ht : eval (.Call (.Attribute o m apos) (e :: es) [] pos) X.env = (do
      let ov ← eval o X.env
      standAt apos.atName
      let (f, first) ← holding [ov] (getMethod ov m pl)
      callWith pos f first (backTo pos (starEach (e :: es) X.env)) (backToKw pos (keywordEach [] X.env))) := by rfl) :
    PE X (.Call (.Attribute o m apos) (e :: es) [] pos) (tMethS C m sp E ta t) := by
  refine ⟨fun pins s σ H Q I h => ?_⟩
  refine PySem.W.methodCall_KW (pl := pl) (thn (he.run pins s σ H _ I h) fun u s1 ⟨x, H1, I1, rx, a, dx, fs, ex, ea, l, q⟩ => ?_) ht
  subst ex
  obtain rfl : u = Value.ref a := rx
  refine getmeth_ok I1 ea c hm l ?_
  refine PySem.W.callWith_K (first := [.ref a]) (h₀ := X.base) I.ok.mod.kin hm.kp (thn (ha.run pos pins s1 σ H1 _ I1 q) fun us s2 ⟨vs, H2, I2, r, q2⟩ => ⟨I2.kIn, ?_⟩) hst hpl
  exact run_fnS (us := .ref a :: us) (vs := .ref a :: vs) F hr hb (hx σ) I2 (.cons rfl r) q2
theorem pe_methS0 {sp : Sp} {CX : CXT} {E : SSt → XK} {ta : TE} {pl : Sem Bool} (he : PE X o ta) (c : Cls X.K C) (hm : Meth X.K C m f) (F : FnOk X.prog X.w X.K X.mg X.base CX k f fd ps sp) (hr : Room k X.A) (hb : Binds X.K fd ps []) (hx : ∀ σ, PassesAt CX X σ (E σ))
    (ht : eval (.Call (.Attribute o m apos) [] [] pos) X.env = (do
      let ov ← eval o X.env
      standAt apos.atName
      let (f, first) ← holding [ov] (getMethod ov m pl)
      callWith pos f first (backTo pos (starEach [] X.env)) (backToKw pos (keywordEach [] X.env))) := by rfl) :
    PE X (.Call (.Attribute o m apos) [] [] pos) (tMethS C m sp E ta tNil) := by
  refine ⟨fun pins s σ H Q I h => ?_⟩
  refine PySem.W.methodCall_KW (pl := pl) (thn (he.run pins s σ H _ I h) fun u s1 ⟨x, H1, I1, rx, a, dx, fs, ex, ea, l, q⟩ => ?_) ht
  subst ex
  obtain rfl : u = Value.ref a := rx
  refine getmeth_ok I1 ea c hm l ?_
  exact PySem.W.callWith_K0 (first := [.ref a]) I1.kIn hm.kp (run_fnS (us := [.ref a]) (vs := [.ref a]) F hr hb (hx σ) I1 (.cons rfl .nil) q)
theorem meth_read {c n : Nat} {tt : TA} (hC : G c = C) (hn : ∀ vs H Q E, spM X.w X.K G n F vs H Q E → True) {σ : SSt} {H : Hp} {Q : VK} (hA : ∀ σ H Q, tA X.w X.K G E t σ H Q → tt σ H Q)
    (h : tE X.w X.K G E (rMeth c m (rArity n F) ra t) σ H Q) : tMethS C m (spM X.w X.K G n F) (fun σ => L2.WE (wxE X.w X.K G E) σ) (tE X.w X.K G E ra) tt σ H Q := by
  obtain ⟨vw, env, eH, ok, re, q⟩ := h
  refine ⟨vw, env, eH, ok, re, (GQ.bind q).imp fun vw1 z l1 ok1 q1 v rz => ?_⟩
  split at q1
  · rename_i hi
    obtain ⟨a, dx, fs, e1, e2, e3⟩ := insOf_rel ok1 hi rz
    refine ⟨a, dx, fs, e1, by rw [← hC]; exact e2, e3, hA _ _ _ ⟨vw1, env, rfl, ok1, re.mono l1, (GQ.bind q1).imp fun vw2 xs l2 ok2 q2 vs rs => ?_⟩⟩
    have rr : RelVs X.w X.K G vw2 (z :: xs) (v :: vs) := ⟨v, vs, rfl, l2.v rz, rs⟩
    unfold rArity at q2
    split at q2
    · rename_i hl
      exact call_read rfl ok2 ((re.mono l1).mono l2) (by rw [← rr.len]; exact hl) rr q2
    · exact q2.elim
  · exact q1.elim
theorem px_meth {c n : Nat} {pl : Sem Bool} (he : PX X G E o ra) (hC : G c = C) (hc : Cls X.K C) (hm : Meth X.K C m f) (hF : FnOk X.prog X.w X.K X.mg X.base (L2.CX X.prog X.w) k f fd ps (spM X.w X.K G n F)) (hr : Room k X.A) (hb : Binds X.K fd ps [])
    (tk : Takes X (wxE X.w X.K G E)) (ha : PXA X G E (e :: es) t)
    (hst : starEach (e :: es) X.env = (false, eval e X.env) :: starEach es X.env := by rfl) (hpl : (backTo pos (starEach es X.env)).any (·.1) = false := by rfl)
    (ht : eval (.Call (.Attribute o m apos) (e :: es) [] pos) X.env = (do
      let ov ← eval o X.env
      standAt apos.atName
      let (f, first) ← holding [ov] (getMethod ov m pl)
      callWith pos f first (backTo pos (starEach (e :: es) X.env)) (backToKw pos (keywordEach [] X.env))) := by rfl) :
    PX X G E (.Call (.Attribute o m apos) (e :: es) [] pos) (rMeth c m (rArity n F) ra t) :=
  (pe_methS he hc hm hF hr hb (fun σ => passAt tk σ) ha hst hpl ht).weak fun σ H Q h => meth_read hC (fun _ _ _ _ _ => trivial) (fun _ _ _ h => h) h
theorem px_meth0 {c n : Nat} {pl : Sem Bool} (he : PX X G E o ra) (hC : G c = C) (hc : Cls X.K C) (hm : Meth X.K C m f) (hF : FnOk X.prog X.w X.K X.mg X.base (L2.CX X.prog X.w) k f fd ps (spM X.w X.K G n F)) (hr : Room k X.A) (hb : Binds X.K fd ps [])
    (tk : Takes X (wxE X.w X.K G E))
    (ht : eval (.Call (.Attribute o m apos) [] [] pos) X.env = (do
      let ov ← eval o X.env
      standAt apos.atName
      let (f, first) ← holding [ov] (getMethod ov m pl)
      callWith pos f first (backTo pos (starEach [] X.env)) (backToKw pos (keywordEach [] X.env))) := by rfl) :
    PX X G E (.Call (.Attribute o m apos) [] [] pos) (rMeth c m (rArity n F) ra rNil) :=
  (pe_methS0 he hc hm hF hr hb (fun σ => passAt tk σ) ht).weak fun σ H Q h => meth_read hC (fun _ _ _ _ _ => trivial) (fun σ H Q ⟨vw, env, eH, ok, re, q⟩ => by
    subst eH
    exact q vw .rfl' ok rfl [] rfl) h
end
end Ev
end S_Ev10
section S_Ev11
namespace Ev
open PySem PySem.Spec PyProof.Rows L2
/-! ### a new instance -/
def rMake (c : Nat) (F : MF) (t : RA) : RX := fun env st => (t env st).bind fun xs st1 => (F (.ref st1.length :: xs) (st1 ++ [some (.ins c [] [])])).bind fun z st2 => match z with
  | .p .non => .ok (.ref st1.length) st2
  | _ => .no
def tMakeS (C : Addr) (sp : Sp) (E : SSt → XK) (t : TA) : TE := fun σ H Q => t σ H fun vs H1 => ∀ x dx, H1 x = none → H1 dx = none → dx ≠ x →
  sp (.ref x :: vs) (upd (upd H1 dx (.own x)) x (.ins C dx [])) (fun v H2 => v = .non ∧ Q (.ref x) H2) (E σ)
section
variable {X : Cx} {G : Nat → Addr} {E : WE} {pos p apos : Pos} {x m : Str} {e o : Expr} {es : List Expr} {t : RA} {ra : RX} {F : MF} {k : Nat} {f C : Addr} {fd : FuncData} {ps : List Str}
theorem run_makeS {CX : CXT} {sp : Sp} {E : XK} {pins : List (Addr × Obj)} {σ : SSt} {H : Hp} {s : Shared} {Q : VK} {us : List Value} {vs : List V} (M : Mk X.K C f) (F : FnOk X.prog X.w X.K X.mg X.base CX k f fd ps sp) (hr : Room (k + 1) X.A) (hb : Binds X.K fd ps [])
    (hx : PassesAt CX X σ E) (I : Inv X pins σ H s) (r : Vals vs us)
    (h : ∀ x dx, H x = none → H dx = none → dx ≠ x → sp (.ref x :: vs) (upd (upd H dx (.own x)) x (.ins C dx [])) (fun v H2 => v = .non ∧ Q (.ref x) H2) E) :
    wpAny (model X.prog X.w) X.A (call (.ref C) us) (EP X pins σ Q) X.xe s := by
  have hq := h (s.heap.objs.size + 1) s.heap.objs.size (I.hok.fresh (Nat.le_succ _)) (I.hok.fresh (Nat.le_refl _)) (Nat.ne_of_lt (Nat.lt_succ_self _))
  have I2 := Inv.made (C := C) I
  have r2 : Vals (V.ref (s.heap.objs.size + 1) :: vs) (Value.ref (s.heap.objs.size + 1) :: us) := .cons rfl r
  have hl : (Value.ref (s.heap.objs.size + 1) :: us).length = ps.length := by
    have e := r2.length
    rw [F.len _ _ _ _ hq] at e
    exact e.symm
  have b := hb _ (Value.ref (s.heap.objs.size + 1) :: us) I2.kIn (by rw [List.append_nil]; exact hl)
  rw [List.append_nil] at b
  refine wpAny_call (make_map (f := f) I.kIn M.makes M.init (beq_iff_eq.mp M.fn) (codeAny_mono (F.run _ X.stack _ _ ⟨Value.ref (s.heap.objs.size + 1) :: us, []⟩ (Value.ref (s.heap.objs.size + 1) :: us) _ _ E (hr.make C us [])
    (I2.env0.make C us []) b r2 hq) fun r s' hq' => ?_))
  cases r with
  | error e => exact hx pins _ _ e s' I2 hq'
  | ok fl =>
    cases fl with
    | ret u =>
      obtain ⟨v, H', I3, rv, ev, q3⟩ := I2.after hq'
      subst ev
      exact ⟨rv, ⟨V.ref (s.heap.objs.size + 1), H', I3, rfl, q3⟩⟩
    | next => exact False.elim hq'
    | brk => exact False.elim hq'
    | cont => exact False.elim hq'
theorem pe_makeS {CX : CXT} {sp : Sp} {E : SSt → XK} {t : TA} (M : Mk X.K C f) (F : FnOk X.prog X.w X.K X.mg X.base CX k f fd ps sp) (hr : Room (k + 1) X.A) (hg : Gl X x) (hm : X.mg x = some (.ref C)) (hb : Binds X.K fd ps []) (hx : ∀ σ, PassesAt CX X σ (E σ))
    (ha : PA X (e :: es) t) (hdb : (x == ("__debug__" : Str)) = false := by decide) (he : starEach (e :: es) X.env = (false, eval e X.env) :: starEach es X.env := by rfl) (hpl : (backTo pos (starEach es X.env)).any (·.1) = false := by rfl) :
    PE X (.Call (.Name x p) (e :: es) [] pos) (tMakeS C sp E t) := by
  refine ⟨fun pins s σ H Q I h => ?_⟩
  refine wpAny_Call_Name_kw (ld_glob I hg hm ?_ hdb)
  refine PySem.W.callWith_K (h₀ := X.base) I.ok.mod.kin M.kp (thn (ha.run pos pins s σ H _ I h) fun us s1 ⟨vs, H1, I1, r, q⟩ => ⟨I1.kIn, ?_⟩) he hpl
  exact run_makeS M F hr hb (hx σ) I1 r q
theorem px_make {c n : Nat} (M : Mk X.K C f) (hC : G c = C) (hF : FnOk X.prog X.w X.K X.mg X.base (L2.CX X.prog X.w) k f fd ps (spM X.w X.K G n F)) (hr : Room (k + 1) X.A) (hg : Gl X x) (hm : X.mg x = some (.ref C)) (hb : Binds X.K fd ps [])
    (tk : Takes X (wxE X.w X.K G E)) (ha : PXA X G E (e :: es) t) (hdb : (x == ("__debug__" : Str)) = false := by decide) (he : starEach (e :: es) X.env = (false, eval e X.env) :: starEach es X.env := by rfl) (hpl : (backTo pos (starEach es X.env)).any (·.1) = false := by rfl) :
    PX X G E (.Call (.Name x p) (e :: es) [] pos) (rMake c (rArity n F) t) :=
  (pe_makeS M hF hr hg hm hb (fun σ => passAt tk σ) ha hdb he hpl).weak fun σ H Q ⟨vw, env, eH, ok, re, q⟩ => by
    refine ⟨vw, env, eH, ok, re, (GQ.bind q).imp fun vw1 xs l1 ok1 q1 vs rs => ?_⟩
    intro a dx na nd ne
    have l2 : Le X.K vw1 (vw1.grow dx (.own a) False) := Le.grow ok1 nd
    have ok2 := VOk.grow (o := .own a) (zz := False) ok1 nd
    have na2 : (vw1.grow dx (.own a) False).H a = none := by
      show upd vw1.H dx (.own a) a = none
      rw [upd_ne (fun e => ne e.symm)]; exact na
    have l3 : Le X.K _ ((vw1.grow dx (.own a) False).alloc a (.ins C dx []) (.ins c [] [])) := Le.alloc ok2 na2
    have ok3 := VOk.alloc (o := .ins C dx []) (ob := .ins c [] []) ok2 na2 ⟨dx, [], by show upd _ a _ a = _; rw [upd_same, hC]; rfl, rfl, rfl⟩
    have l13 := l2.trans l3
    have ea : ((vw1.grow dx (.own a) False).alloc a (.ins C dx []) (.ins c [] [])).al vw1.st.length = a := if_pos rfl
    have hlen : vw1.st.length < ((vw1.grow dx (.own a) False).alloc a (.ins C dx []) (.ins c [] [])).st.length := by
      show _ < (vw1.st ++ [_]).length
      simp
    have r1 : RelVV X.w X.K G ((vw1.grow dx (.own a) False).alloc a (.ins C dx []) (.ins c [] [])) (.ref vw1.st.length) (.ref a) := ⟨hlen, by rw [ea]⟩
    have rr : RelVs X.w X.K G ((vw1.grow dx (.own a) False).alloc a (.ins C dx []) (.ins c [] [])) (.ref vw1.st.length :: xs) (.ref a :: vs) := ⟨_, vs, rfl, r1, l13.vs rs⟩
    have q2 := GQ.bind q1
    have q3 : GQ X.w X.K G ((vw1.grow dx (.own a) False).alloc a (.ins C dx []) (.ins c [] [])) (fun vw' => E vw' env) (rArity n F (.ref vw1.st.length :: xs) ((vw1.grow dx (.own a) False).alloc a (.ins C dx []) (.ins c [] [])).st)
        (fun vw' z => ∀ v, RelVV X.w X.K G vw' z v → v = .non ∧ Q (.ref a) vw'.H) := by
      refine (GQ.back l13 q2).imp fun vw4 z l4 ok4 q4 v rv => ?_
      split at q4
      · refine ⟨by have := (show RelP X.w X.K G vw4.H vw4.Z .non v from rv); rw [RelP] at this; exact this, ?_⟩
        refine q4 vw4 .rfl' ok4 rfl (.ref a) ?_
        exact l4.v r1
      · exact q4.elim
    unfold rArity at q3
    split at q3
    · rename_i hl
      exact call_read (vw := (vw1.grow dx (.own a) False).alloc a (.ins C dx []) (.ins c [] [])) rfl ok3 ((re.mono l1).mono l13) (by rw [← rr.len]; exact hl) rr q3
    · exact q3.elim
end
/-! ### pure calls -/
inductive PR where
  | ok (x : PV) | ex (c : Nat) (us : List PV) | no
def liftP (f : List PV → PR) : MF := fun xs st => match toPs xs with
  | none => .no
  | some ys => match f ys with
    | .ok z => .ok (.p z) st
    | .ex c us => .ex c us st
    | .no => .no
def pureOf (F : MF) : List PV → PR := fun ys => match F (ys.map .p) [] with
  | .ok (.p z) _ => .ok z
  | .ok _ _ => .no
  | .ex c us _ => .ex c us
  | .no => .no
section
variable {w : World} {K : PySem.W.Frag} {G : Nat → Addr} {vw vw1 vw2 : Vw}
/-- the caller's objects are set aside -/
def Vw.aside (vw : Vw) : Vw := { vw with F := fun a => vw.F a ∨ ∃ n o, vw.st[n]? = some (some o) ∧ vw.al n = a, st := [] }
theorem VOk.aside (ok : VOk w K G vw) : VOk w K G vw.aside where
  zf := fun a h1 h2 => h2.elim (ok.zf a h1) fun ⟨n, o, e, q⟩ => (ok.nz n o e).1 (by rw [q]; exact h1)
  fn := fun a h => h.elim (ok.fn a) fun ⟨n, o, e, q⟩ => by rw [← q]; exact (ok.ob n o e).some
  zn := ok.zn
  ob := fun n o e => absurd (show ([] : Sto)[n]? = some (some o) from e) (by simp)
  nz := fun n o e => absurd (show ([] : Sto)[n]? = some (some o) from e) (by simp)
  inj := fun n m o o' e => absurd (show ([] : Sto)[n]? = some (some o) from e) (by simp)
  tab := ok.tab.move (fun _ h => h) (fun _ z => .inl z) (fun a f => f.imp id fun ⟨n, o, e, q⟩ ps z => (ok.ob n o e).notb ps (by rw [q]; exact z)) (fun _ _ e => e) fun _ _ _ _ e => e
/-- .. and taken again -/
def Vw.again (vw vw1 : Vw) : Vw := { vw1 with F := vw.F, al := vw.al, st := vw.st }
theorem Le.again (l : Le K vw.aside vw1) : Le K vw (vw.again vw1) :=
  ⟨l.z, l.zr, l.ze, rfl, fun a h => l.fr a (.inl h), l.tu, fun _ _ => rfl, Nat.le_refl _, l.fz⟩
theorem VOk.again (ok : VOk w K G vw) (l : Le K vw.aside vw1) (ok1 : VOk w K G vw1) : VOk w K G (vw.again vw1) where
  zf := fun a h1 h2 => ok1.zf a h1 (by rw [l.f]; exact .inl h2)
  fn := fun a h => ok1.fn a (by rw [l.f]; exact .inl h)
  zn := ok1.zn
  ob := fun n o e => (ok.ob n o e).mono (Le.again l) (l.fr _ (.inr ⟨n, o, e, rfl⟩))
  nz := fun n o e => ⟨fun z => ok1.zf _ z (by rw [l.f]; exact .inr ⟨n, o, e, rfl⟩), (ok.nz n o e).2⟩
  inj := ok.inj
  tab := ok1.tab.move (fun _ h => h) (fun _ z => .inl z) (fun a f => .inl (by rw [l.f]; exact .inl f)) (fun _ _ e => e) fun _ _ _ _ e => e
theorem relVs_map : ∀ {ys : List PV} {vs : List V} {vw : Vw}, RelPs w K G vw.H vw.Z ys vs → RelVs w K G vw (ys.map .p) vs
  | [], _, _, h => by rw [RelPs] at h; exact h
  | y :: ys, _, _, h => by
    rw [RelPs] at h
    obtain ⟨v, r, e, h1, h2⟩ := h
    exact ⟨v, r, e, h1, relVs_map h2⟩
theorem sp_pure {n : Nat} {F : MF} {vs : List V} {H : Hp} {Q : VK} {E : XK} (h : spM w K G n (liftP (pureOf F)) vs H Q E) : spM w K G n F vs H Q E := by
  obtain ⟨hl, vw, xs, eH, ok, rs, q⟩ := h
  unfold liftP at q
  cases ht : toPs xs with
  | none => rw [ht] at q; exact q.elim
  | some ys =>
    rw [ht] at q
    dsimp only at q
    have rp := toPs_rel rs ht
    refine ⟨hl, vw.aside, ys.map .p, eH, ok.aside, relVs_map (vw := vw.aside) rp, ?_⟩
    unfold pureOf at q
    show GQ w K G vw.aside _ (F (ys.map .p) []) _
    generalize F (ys.map .p) [] = r at q
    cases r with
    | no => exact q.elim
    | ex c us st =>
      intro vw1 l ok1 es cls d ⟨x1, gs, ws, dd, zs, x2, x3, x4, x5, x6, x7⟩
      exact q (vw.again vw1) (Le.again l) (VOk.again ok l ok1) rfl cls d ⟨x1, gs, ws, dd, zs, x2, x3, x4, x5, x6, fun f => x7 (by rw [l.f]; exact .inl f)⟩
    | ok x st =>
      intro vw1 l ok1 es v rv
      cases x with
      | ref n => exact q.elim
      | p z => exact q (vw.again vw1) (Le.again l) (VOk.again ok l ok1) rfl v rv
theorem fn_pure {P : Program} {mg : Str → Option Value} {base : Heap} {CX : CXT} {j n : Nat} {f : Addr} {fd : FuncData} {ps : List Str} {F : MF} (h : FnOk P w K mg base CX j f fd ps (spM w K G n F)) : FnOk P w K mg base CX j f fd ps (spM w K G n (liftP (pureOf F))) :=
  h.imp fun _ _ _ _ q => sp_pure q
/-! ### what a call has made is given up -/
def obOk (n : Nat) : Option Ob → Bool
  | some (.ins _ _ us) => us.all fun u => match u with
    | .ref m => decide (m < n)
    | _ => true
  | _ => true
def cutOk (n : Nat) (st : Sto) : Bool := (st.take n).all (obOk n)
def gcOf (F : MF) : MF := fun xs st => match F xs st with
  | .ok (.p z) st1 => if cutOk st.length st1 = true then .ok (.p z) (st1.take st.length) else .no
  | .ok _ _ => .no
  | .ex c us st1 => if cutOk st.length st1 = true then .ex c us (st1.take st.length) else .no
  | .no => .no
theorem VOk.cut {n : Nat} (ok : VOk w K G vw) (hn : n ≤ vw.st.length) (hc : cutOk n vw.st = true) : VOk w K G (vw.less (vw.st.take n)) := by
  have cs : ∀ m (o : Ob), (vw.st.take n)[m]? = some (some o) → m < n ∧ vw.st[m]? = some (some o) := fun m o e => by
    by_cases h : m < n
    · rw [List.getElem?_take_of_lt h] at e
      exact ⟨h, e⟩
    · rw [List.getElem?_eq_none (by simp; omega)] at e
      cases e
  have el : (vw.st.take n).length = n := by simp; omega
  refine ⟨ok.zf, ok.fn, ok.zn, fun m o e => ?_, fun m o e => ok.nz m o (cs m o e).2, fun m m' o o' e e' => ok.inj m m' o o' (cs m o e).2 (cs m' o' e').2, ok.tab⟩
  have ho := ok.ob m o (cs m o e).2
  cases o with
  | lst lk xs => exact ho
  | lkl xs => exact ho
  | dct nk lk ks us => cases nk <;> exact ho
  | ins c fs us =>
    obtain ⟨dx, vs, h1, h2, h3⟩ := ho
    refine ⟨dx, vs, h1, h2, ?_⟩
    have hall0 := List.all_eq_true.mp hc (some (.ins c fs us)) (List.mem_of_getElem? e)
    have hall : us.all (fun u => match u with
      | .ref m => decide (m < n)
      | _ => true) = true := hall0
    clear h1 h2 hall0 e
    induction us generalizing vs with
    | nil => exact h3
    | cons u us ih =>
      obtain ⟨v, r, rfl, r1, r2⟩ := h3
      rw [List.all_cons, Bool.and_eq_true] at hall
      refine ⟨v, r, rfl, ?_, ih r r2 hall.2⟩
      cases u with
      | p x => exact r1
      | ref j => exact ⟨by rw [show (vw.less (vw.st.take n)).st.length = n from el]; exact of_decide_eq_true hall.1, r1.2⟩
theorem Le.cut {n : Nat} (l : Le K vw vw1) (hn : vw.st.length = n) : Le K vw (vw1.less (vw1.st.take n)) :=
  ⟨l.z, l.zr, l.ze, l.f, l.fr, l.tu, l.al, by show _ ≤ (vw1.st.take n).length; have := l.len; simp; omega, l.fz⟩
theorem sp_gc {n : Nat} {F : MF} {vs : List V} {H : Hp} {Q : VK} {E : XK} (h : spM w K G n (gcOf F) vs H Q E) : spM w K G n F vs H Q E := by
  obtain ⟨hl, vw, xs, eH, ok, rs, q⟩ := h
  refine ⟨hl, vw, xs, eH, ok, rs, ?_⟩
  unfold gcOf at q
  generalize F xs vw.st = r at q
  cases r with
  | no => exact q.elim
  | ex c us st =>
    dsimp only at q
    split at q
    · rename_i hc
      intro vw1 l ok1 es cls d xr
      subst es
      exact q _ (Le.cut l rfl) (VOk.cut ok1 l.len hc) rfl cls d xr
    · exact q.elim
  | ok x st =>
    cases x with
    | ref m => exact q.elim
    | p z =>
      dsimp only at q
      split at q
      · rename_i hc
        intro vw1 l ok1 es v rv
        subst es
        exact q _ (Le.cut l rfl) (VOk.cut ok1 l.len hc) rfl v rv
      · exact q.elim
theorem fn_gc {P : Program} {mg : Str → Option Value} {base : Heap} {CX : CXT} {j n : Nat} {f : Addr} {fd : FuncData} {ps : List Str} {F : MF} (h : FnOk P w K mg base CX j f fd ps (spM w K G n F)) : FnOk P w K mg base CX j f fd ps (spM w K G n (gcOf F)) :=
  h.imp fun _ _ _ _ q => sp_gc q
end
/-! ### freezing within a body -/
def rFrz (k : Nat) (r : RX) : RX := fun env st => (r env st).bind fun x st1 => match frzV k st1 x with
  | some (z, st2) => .ok (.p z) st2
  | none => .no
/-- what the i-th name names is changed no more -/
def sPre (k i : Nat) (s : RS) : RS := fun env st => match env[i]? with
  | some (some x) => (match frzV k st x with
    | some (z, st2) => s (env.set i (some (.p z))) st2
    | none => .no)
  | _ => .no
section
variable {X : Cx} {G : Nat → Addr} {E : WE} {a : Expr} {ra : RX} {rs : RS} {st : Stmt} {sts : List Stmt}
theorem px_frz (k : Nat) (h : PX X G E a ra) : PX X G E a (rFrz k ra) := by
  refine ⟨fun pins s σ H Q I ⟨vw, env, eH, ok, re, q⟩ => ?_⟩
  refine thn (h.run pins s σ H (fun v H1 => ∃ vw1 x, vw1.H = H1 ∧ VOk X.w X.K G vw1 ∧ RelVV X.w X.K G vw1 x v ∧ GQ X.w X.K G vw1 (fun vw' => E vw' env) (match frzV k vw1.st x with
      | some (z, st2) => (.ok (.p z) st2 : Res VV)
      | none => .no) fun vw' x => ∀ v, RelVV X.w X.K G vw' x v → Q v vw'.H) I ⟨vw, env, eH, ok, re, (GQ.bind q).imp fun vw1 x l1 ok1 q1 v rv => ⟨vw1, x, rfl, ok1, rv, q1⟩⟩) fun u s1 ⟨v, H1, I1, ru, vw1, x, eH1, ok1, rv, q1⟩ => ?_
  subst eH1
  split at q1
  · rename_i z st2 hf
    obtain ⟨vw2, I2, l2, ok2, es2, r2⟩ := (frz_ok k).1 pins σ s1 vw1 x z v _ I1 ok1 rv hf
    exact ⟨v, vw2.H, I2, ru, q1 vw2 l2 ok2 es2 v r2⟩
  · exact q1.elim
theorem pre_read {k i : Nat} {D : Ends} {pins : List (Addr × Obj)} {s : Shared} {σ : SSt} {H : Hp} (I : Inv X pins σ H s) (h : tS X.w X.K G E (sPre k i rs) D σ H) : ∃ H', Inv X pins σ H' s ∧ tS X.w X.K G E rs D σ H' := by
  obtain ⟨vw, env, eH, ok, re, q⟩ := h
  subst eH
  unfold sPre at q
  split at q
  · rename_i x hx
    split at q
    · rename_i z st2 hf
      obtain ⟨v, ev, rv⟩ := re.2 i x hx
      obtain ⟨vw2, I2, l2, ok2, es2, r2⟩ := (frz_ok k).1 pins σ s vw x z v _ I ok rv hf
      have re2 := (re.mono l2).set (i := i) (x := .p z) r2
      have hs : List.set σ i (some v) = σ := by
        apply List.ext_getElem?
        intro j
        by_cases hj : i = j
        · subst hj
          rw [List.getElem?_set_self (List.getElem?_eq_some_iff.mp ev).1, ev]
        · rw [List.getElem?_set_ne hj]
      rw [hs] at re2
      refine ⟨vw2.H, I2, vw2, _, rfl, ok2, re2, ?_⟩
      rw [es2]
      exact GS.back l2 q
    · exact q.elim
  · exact q.elim
theorem pxs_pre (k i : Nat) (h : PXS X G E st rs) : PXS X G E st (sPre k i rs) := ⟨fun pins s σ H D I q => let ⟨H', I', q'⟩ := pre_read I q; h.run pins s σ H' D I' q'⟩
theorem pxss_pre (k i : Nat) (h : PXSs X G E sts rs) : PXSs X G E sts (sPre k i rs) := ⟨fun pins s σ H D I q => let ⟨H', I', q'⟩ := pre_read I q; h.run pins s σ H' D I' q'⟩
end
end Ev
end S_Ev11
section S_Ev12
namespace Ev
open PySem PySem.Spec PyProof.Rows L2
/-! ### attributes -/
def lkV : List Str → List VV → Str → Option VV
  | f :: fs, u :: us, g => if g = f then some u else lkV fs us g
  | _, _, _ => none
def lkP : List Str → List PV → Str → Option PV
  | f :: fs, u :: us, g => if g = f then some u else lkP fs us g
  | _, _, _ => none
def putV : List Str → List VV → Str → VV → List Str × List VV
  | f :: fs, u :: us, g, x => if f = g then (g :: fs, x :: us) else (f :: (putV fs us g x).1, u :: (putV fs us g x).2)
  | _, _, g, x => ([g], [x])
section
variable {w : World} {K : PySem.W.Frag} {G : Nat → Addr} {vw : Vw}
theorem lookup_cons_zip {f g : Str} {v : V} {r : List (Str × V)} : List.lookup g ((f, v) :: r) = if g = f then some v else List.lookup g r := by
  rw [List.lookup]
  by_cases h : g = f
  · subst h; simp
  · rw [if_neg h]; rw [beq_eq_false_iff_ne.mpr h]
theorem lkV_rel : ∀ {fs : List Str} {us : List VV} {vs : List V} {g : Str} {u : VV}, RelVs w K G vw us vs → lkV fs us g = some u → ∃ v, (fs.zip vs).lookup g = some v ∧ RelVV w K G vw u v
  | [], us, vs, g, u, r, e => by cases e
  | f :: fs, [], vs, g, u, r, e => by cases e
  | f :: fs, y :: us, _, g, u, r, e => by
    obtain ⟨v, rr, rfl, r1, r2⟩ := r
    rw [List.zip_cons_cons, lookup_cons_zip]
    rw [lkV] at e
    by_cases h : g = f
    · rw [if_pos h] at e ⊢
      cases e
      exact ⟨v, rfl, r1⟩
    · rw [if_neg h] at e ⊢
      exact lkV_rel r2 e
theorem lkP_rel {H : Hp} {Z : Addr → Prop} : ∀ {fs : List Str} {us : List PV} {vs : List V} {g : Str} {u : PV}, RelPs w K G H Z us vs → lkP fs us g = some u → ∃ v, (fs.zip vs).lookup g = some v ∧ RelP w K G H Z u v
  | [], us, vs, g, u, r, e => by cases e
  | f :: fs, [], vs, g, u, r, e => by cases e
  | f :: fs, y :: us, _, g, u, r, e => by
    rw [RelPs] at r
    obtain ⟨v, rr, rfl, r1, r2⟩ := r
    rw [List.zip_cons_cons, lookup_cons_zip]
    rw [lkP] at e
    by_cases h : g = f
    · rw [if_pos h] at e ⊢
      cases e
      exact ⟨v, rfl, r1⟩
    · rw [if_neg h] at e ⊢
      exact lkP_rel r2 e
theorem putV_rel {x : VV} {v : V} (rx : RelVV w K G vw x v) : ∀ {fs : List Str} {us : List VV} {vs : List V} {g : Str}, RelVs w K G vw us vs → vs.length = fs.length →
    ∃ vs', putF g v (fs.zip vs) = (putV fs us g x).1.zip vs' ∧ vs'.length = (putV fs us g x).1.length ∧ RelVs w K G vw (putV fs us g x).2 vs'
  | [], [], vs, g, r, hl => by
    rw [show vs = [] from r]
    exact ⟨[v], rfl, rfl, v, [], rfl, rx, rfl⟩
  | [], y :: us, vs, g, r, hl => by
    obtain ⟨_, _, rfl, _, _⟩ := r
    cases hl
  | f :: fs, [], vs, g, r, hl => by
    rw [show vs = [] from r] at hl
    cases hl
  | f :: fs, y :: us, _, g, r, hl => by
    obtain ⟨v0, rr, rfl, r1, r2⟩ := r
    rw [List.zip_cons_cons]
    unfold putV
    by_cases h : f = g
    · rw [if_pos h]
      refine ⟨v :: rr, ?_, by simpa using hl, v, rr, rfl, rx, r2⟩
      unfold putF
      rw [if_pos h, h]
      rfl
    · rw [if_neg h]
      obtain ⟨vs', e1, e2, e3⟩ := putV_rel rx (g := g) r2 (by simpa using hl)
      refine ⟨v0 :: vs', ?_, by simp [e2], v0, vs', rfl, r1, e3⟩
      unfold putF
      rw [if_neg h, e1]
      rfl
end
section
variable {X : Cx} {G : Nat → Addr} {E : WE} {pos pos' : Pos} {o e value : Expr} {f : Str} {ra rv : RX} {okc : Nat → Bool}
def rFld (okc : Nat → Bool) (f : Str) (ra : RX) : RX := fun env st => (ra env st).bind fun z st1 => match z with
  | .p (.ins c fs us) => if okc c = true then (match lkP fs us f with
    | some u => .ok (.p u) st1
    | none => .no) else .no
  | .ref n => (match st1[n]? with
    | some (some (.ins c fs us)) => if okc c = true then (match lkV fs us f with
      | some u => .ok u st1
      | none => .no) else .no
    | _ => .no)
  | _ => .no
/-- classes whose instances have their attributes in their dict -/
def ClsOk (X : Cx) (G : Nat → Addr) (okc : Nat → Bool) (f : Str) : Prop := ∀ c, okc c = true → Cls X.K (G c) ∧ NoAttr X.K (G c) f
theorem px_fld (ha : PX X G E o ra) (hc : ClsOk X G okc f) (hb : attributeBase o f X.env (eval o X.env) = eval o X.env := by rfl) : PX X G E (.Attribute o f pos) (rFld okc f ra) := (pe_fld ha hb).weak fun σ H Q ⟨vw, env, eH, ok, re, q⟩ => by
  refine ⟨vw, env, eH, ok, re, (GQ.bind q).imp fun vw1 z l1 ok1 q1 v rz => ?_⟩
  split at q1
  · rename_i c fs us
    split at q1
    · rename_i hk
      split at q1
      · rename_i u hu
        have rz' : RelP X.w X.K G vw1.H vw1.Z (.ins c fs us) v := rz
        rw [RelP] at rz'
        obtain ⟨a, dx, vs, ev, hz, h1, hl, rs⟩ := rz'
        obtain ⟨v1, e1, r1⟩ := lkP_rel rs hu
        exact ⟨a, G c, dx, _, v1, ev, h1, (hc c hk).1, (hc c hk).2, e1, q1 vw1 .rfl' ok1 rfl v1 r1⟩
      · exact q1.elim
    · exact q1.elim
  · rename_i n
    split at q1
    · rename_i c fs us eo
      split at q1
      · rename_i hk
        split at q1
        · rename_i u hu
          obtain ⟨dx, vs, h1, hl, rs⟩ := ok1.ob n _ eo
          obtain ⟨v1, e1, r1⟩ := lkV_rel rs hu
          exact ⟨_, G c, dx, _, v1, rz.2, h1, (hc c hk).1, (hc c hk).2, e1, q1 vw1 .rfl' ok1 rfl v1 r1⟩
        · exact q1.elim
      · exact q1.elim
    · exact q1.elim
  · exact q1.elim
/-- e.f = value -/
def putFld (okc : Nat → Bool) (f : Str) (z y : VV) (st : Sto) : Option Sto := match z with
  | .ref n => (match st[n]? with
    | some (some (.ins c fs us)) => if okc c = true ∧ fs.length < 1000 then some (st.set n (some (.ins c (putV fs us f y).1 (putV fs us f y).2))) else none
    | _ => none)
  | _ => none
theorem putFld_ok {w : World} {K : PySem.W.Frag} {vw : Vw} {z y : VV} {v u : V} {st' : Sto} (ok : VOk w K G vw) (rz : RelVV w K G vw z v) (ry : RelVV w K G vw y u) (h : putFld okc f z y vw.st = some st') :
    ∃ a c dx fs vw', okc c = true ∧ v = .ref a ∧ vw.H a = some (.ins (G c) dx fs) ∧ fs.length < 1000 ∧ vw'.H = upd vw.H a (.ins (G c) dx (putF f u fs)) ∧ Le K vw vw' ∧ VOk w K G vw' ∧ vw'.st = st' := by
  unfold putFld at h
  split at h
  · rename_i n
    split at h
    · rename_i c fs us eo
      split at h
      · rename_i hk
        cases h
        obtain ⟨dx, vs, h1, hl, rs⟩ := ok.ob n _ eo
        obtain ⟨vs', e1, e2, e3⟩ := putV_rel (g := f) ry rs hl
        have l := Le.write (K := K) (o := .ins (G c) dx (putF f u (fs.zip vs))) (ob := .ins c (putV fs us f y).1 (putV fs us f y).2) ok eo h1 rfl
        refine ⟨vw.al n, c, dx, fs.zip vs, vw.write n (.ins (G c) dx (putF f u (fs.zip vs))) (.ins c (putV fs us f y).1 (putV fs us f y).2), hk.1, rz.2, h1, by rw [List.length_zip]; omega, rfl, l, VOk.write ok eo h1 rfl ?_, rfl⟩
        exact ⟨dx, vs', by show upd _ _ _ _ = _; rw [upd_same, e1], e2, l.vs e3⟩
      · cases h
    · cases h
  · cases h
def sFldR (okc : Nat → Bool) (f : Str) (ra rv : RX) : RS := fun env st => (rv env st).toS env fun y st1 => (ra env st1).toS env fun z st2 => match putFld okc f z y st2 with
  | some st3 => .nx env st3
  | none => .no
theorem pxs_fld (ha : PX X G E o ra) (hv : PX X G E value rv) (hc : ClsOk X G okc f) (hs : swapsWith value (some (.Attribute o f pos')) pos.line X.env = pure false := by rfl) : PXS X G E (.Assign [.Attribute o f pos'] value pos) (sFldR okc f ra rv) :=
  (ps_fld ha hv hs).weak fun D σ H ⟨vw, env, eH, ok, re, q⟩ => by
    refine ⟨vw, env, eH, ok, re, (GS.bind q).imp fun vw1 y l1 ok1 q1 u ry => ⟨vw1, env, rfl, ok1, re.mono l1, (GS.bind q1).imp fun vw2 z l2 ok2 q2 v rz => ?_⟩⟩
    split at q2
    · rename_i st3 hp
      obtain ⟨a, c, dx, fs, vw3, hk, e1, e2, e3, e4, l3, ok3, es⟩ := putFld_ok ok2 rz (l2.v ry) hp
      refine ⟨a, G c, dx, fs, e1, e2, (hc c hk).1, (hc c hk).2, e3, ?_⟩
      rw [← e4]
      exact q2 vw3 σ l3 ok3 es (((re.mono l1).mono l2).mono l3)
    · exact q2.elim
end
/-! ### built-ins as functions of the store -/
def qB (w : World) (K : PySem.W.Frag) (G : Nat → Addr) (B : MF) : List V → Hp → VK → Prop := fun vs H Q => ∃ vw xs, vw.H = H ∧ VOk w K G vw ∧ RelVs w K G vw xs vs ∧ GQ w K G vw (fun _ _ _ => False) (B xs vw.st) fun vw' x => ∀ v, RelVV w K G vw' x v → Q v vw'.H
theorem GQ.noE {w : World} {K : PySem.W.Frag} {G : Nat → Addr} {α : Type} {vw : Vw} {E : Vw → Nat → List PV → Prop} {r : Res α} {Q : Vw → α → Prop} (h : GQ w K G vw E r.nox Q) : GQ w K G vw (fun _ _ _ => False) r Q := GQ.nox h
def rCB (B : MF) (t : RA) : RX := fun env st => (t env st).bind fun xs st1 => (B xs st1).nox
section
variable {X : Cx} {G : Nat → Addr} {E : WE} {pos p apos cpos : Pos} {x name : Str} {o e : Expr} {es : List Expr} {t : RA} {ra : RX} {B : MF} {id T : String}
theorem px_callB (hc : CallR X (.builtin id) (qB X.w X.K G B)) (hg : Gl X x) (hm : X.mg x = none) (ha : PXA X G E (e :: es) t) (hv : bootBuiltins x = some (.builtin id) := by rfl) (hn : x ≠ "__name__" := by decide) (hdb : (x == ("__debug__" : Str)) = false := by decide)
    (he : starEach (e :: es) X.env = (false, eval e X.env) :: starEach es X.env := by rfl) (hpl : (backTo pos (starEach es X.env)).any (·.1) = false := by rfl) : PX X G E (.Call (.Name x p) (e :: es) [] pos) (rCB B t) :=
  (pe_callB hc hg hm hv ha hn hdb he hpl).weak fun σ H Q ⟨vw, env, eH, ok, re, q⟩ => by
    refine ⟨vw, env, eH, ok, re, (GQ.bind q).imp fun vw1 xs l1 ok1 q1 vs rs => ?_⟩
    exact ⟨vw1, xs, rfl, ok1, rs, GQ.noE q1⟩
theorem px_callTy (hc : CallR X (.type T) (qB X.w X.K G B)) (hg : Gl X x) (hm : X.mg x = none) (ha : PXA X G E (e :: es) t) (hv : bootBuiltins x = some (.type T) := by rfl) (hn : x ≠ "__name__" := by decide) (hdb : (x == ("__debug__" : Str)) = false := by decide)
    (he : starEach (e :: es) X.env = (false, eval e X.env) :: starEach es X.env := by rfl) (hpl : (backTo pos (starEach es X.env)).any (·.1) = false := by rfl) : PX X G E (.Call (.Name x p) (e :: es) [] pos) (rCB B t) :=
  (pe_callTy hc hg hm hv ha hn hdb he hpl).weak fun σ H Q ⟨vw, env, eH, ok, re, q⟩ => by
    refine ⟨vw, env, eH, ok, re, (GQ.bind q).imp fun vw1 xs l1 ok1 q1 vs rs => ?_⟩
    exact ⟨vw1, xs, rfl, ok1, rs, GQ.noE q1⟩
/-! ### methods of built-in types -/
/-- z is of the type T -/
def TyOk (X : Cx) (G : Nat → Addr) (T : String) (tok : Sto → VV → Bool) : Prop := ∀ (pins : List (Addr × Obj)) (s : Shared) (σ : SSt) (vw : Vw) (z : VV) (v : V) (u : Value), Inv X pins σ vw.H s → VOk X.w X.K G vw → RelVV X.w X.K G vw z v → RelV v u → tok vw.st z = true →
  s.TypeIs u T ∧ ∀ a, u = .ref a → ∃ ob, s.heap.get? a = some ob ∧ ob.dict = none
def rBM (tok : Sto → VV → Bool) (B : MF) (ra : RX) (t : RA) : RX := fun env st => (ra env st).bind fun z st1 => if tok st1 z = true then (t env st1).bind fun xs st2 => (B (z :: xs) st2).nox else .no
def MB (X : Cx) (G : Nat → Addr) (id : String) (B : MF) : Prop := MtR X id fun x vs H Q => qB X.w X.K G B (x :: vs) H Q
theorem px_bm {tok : Sto → VV → Bool} (ht : TyOk X G T tok) (pa : PlainAttrs T) (slot : Slot T name id) (hty : typeOf (.builtin id) = pure (.type "method_descriptor")) (hm : MB X G id B) (ho : PX X G E o ra) (ha : PXA X G E (e :: es) t)
    (hbase : attributeBase o name X.env (eval o X.env) = eval o X.env := by rfl)
    (hfew : ((backTo cpos (starEach (e :: es) X.env)).all (fun x => !x.1) && (backToKw cpos (keywordEach [] X.env)).all (fun x => x.1.isSome)
      && decide ((e :: es).length + ([] : List Keyword).length + (if ([] : List Keyword).isEmpty then 0 else 1) < 30)) = true := by rfl)
    (hline : (apos.endLine == cpos.line) = true := by rfl) (hs : starEach (e :: es) X.env = (false, eval e X.env) :: starEach es X.env := by rfl) (hplain : (backTo cpos (starEach es X.env)).any (·.1) = false := by rfl) :
    PX X G E (.Call (.Attribute o name apos) (e :: es) [] cpos) (rBM tok B ra t) := by
  refine ⟨fun pins s σ H Q I h => ?_⟩
  refine wpAny_Call_method_late hbase hfew hline rfl (thn (ho.run pins s σ H (fun v H1 => ∃ vw env z, vw.H = H1 ∧ VOk X.w X.K G vw ∧ RepE X.w X.K G vw env σ ∧ RelVV X.w X.K G vw z v ∧ tok vw.st z = true ∧
      GQ X.w X.K G vw (fun vw' => E vw' env) ((t env vw.st).bind fun xs st2 => (B (z :: xs) st2).nox) fun vw' x => ∀ v, RelVV X.w X.K G vw' x v → Q v vw'.H) I ?_) fun u s1 ⟨x, H1, I1, r1, vw, env, z, eH, ok, re, rz, hz, q1⟩ => ?_)
  · obtain ⟨vw, env, eH, ok, re, q⟩ := h
    refine ⟨vw, env, eH, ok, re, (GQ.bind q).imp fun vw1 z l1 ok1 q1 v rz => ?_⟩
    split at q1
    · rename_i hz
      exact ⟨vw1, env, z, rfl, ok1, re.mono l1, rz, hz, q1⟩
    · exact q1.elim
  · subst eH
    obtain ⟨h1, h2⟩ := ht pins s1 σ vw z x u I1 ok rz r1 hz
    refine ⟨T, id, pa, slot, hty, h1, h2, ?_⟩
    have hA := ha.run cpos pins s1 σ vw.H (fun vs H2 => qB X.w X.K G B (x :: vs) H2 Q) I1 ⟨vw, env, rfl, ok, re, (GQ.bind q1).imp fun vw2 xs l2 ok2 q2 vs rs => ⟨vw2, z :: xs, rfl, ok2, ⟨x, vs, rfl, l2.v rz, rs⟩, GQ.noE q2⟩⟩
    rw [hs] at hA ⊢
    refine Calls.callWith_builtin (by show (false || (backTo cpos (starEach es X.env)).any (·.1)) = false; rw [hplain] <;> rfl) (Calls.evalArgs_plain ?_)
    exact thn hA fun us s2 ⟨vs, H2, I2, r2, q2⟩ => hm pins s2 σ H2 x vs u us Q I2 r1 r2 q2
theorem px_bm0 {tok : Sto → VV → Bool} (ht : TyOk X G T tok) (pa : PlainAttrs T) (slot : Slot T name id) (hty : typeOf (.builtin id) = pure (.type "method_descriptor")) (hm : MB X G id B) (ho : PX X G E o ra)
    (hbase : attributeBase o name X.env (eval o X.env) = eval o X.env := by rfl) (hline : (apos.endLine == cpos.line) = true := by rfl) : PX X G E (.Call (.Attribute o name apos) [] [] cpos) (rBM tok B ra rNil) := by
  refine ⟨fun pins s σ H Q I h => ?_⟩
  refine wpAny_Call_method0_late hbase hline (thn (ho.run pins s σ H (fun v H1 => ∃ vw env z, vw.H = H1 ∧ VOk X.w X.K G vw ∧ RepE X.w X.K G vw env σ ∧ RelVV X.w X.K G vw z v ∧ tok vw.st z = true ∧
      GQ X.w X.K G vw (fun vw' => E vw' env) ((B [z] vw.st).nox) fun vw' x => ∀ v, RelVV X.w X.K G vw' x v → Q v vw'.H) I ?_) fun u s1 ⟨x, H1, I1, r1, vw, env, z, eH, ok, re, rz, hz, q1⟩ => ?_)
  · obtain ⟨vw, env, eH, ok, re, q⟩ := h
    refine ⟨vw, env, eH, ok, re, (GQ.bind q).imp fun vw1 z l1 ok1 q1 v rz => ?_⟩
    split at q1
    · rename_i hz
      exact ⟨vw1, env, z, rfl, ok1, re.mono l1, rz, hz, q1⟩
    · exact q1.elim
  · subst eH
    obtain ⟨h1, h2⟩ := ht pins s1 σ vw z x u I1 ok rz r1 hz
    refine ⟨T, id, pa, slot, hty, h1, h2, Calls.callWith_builtin rfl (PySem.evalArgs_none (hm pins s1 σ vw.H x [] u [] Q I1 r1 .nil ?_))⟩
    exact ⟨vw, [z], rfl, ok, ⟨x, [], rfl, rz, rfl⟩, GQ.noE q1⟩
end
end Ev
end S_Ev12
section S_Ev13
namespace Ev
open PySem PySem.Spec PyProof.Rows L2
/-! ### d[k] = x -/
def kHas (kk : List NestedKey) (j : NestedKey) : Bool := kk.any fun k => decide (k = j)
def kRep : List NestedKey → List PV → NestedKey → PV → List PV
  | k :: kk, u :: us, j, x => (if k = j then x else u) :: kRep kk us j x
  | _, _, _, _ => []
def pHas (ks : List PV) (k : PV) : Bool := ks.any fun x => PV.eqK x k
def pRep : List PV → List PV → PV → PV → List PV
  | k :: ks, u :: us, j, x => (bif PV.eqK k j then x else u) :: pRep ks us j x
  | _, _, _, _ => []
def fHas (ks : List PV) (j : Key) : Bool := ks.any fun k => decide (k.flatK = some j)
def fRep : List PV → List PV → Key → PV → List PV
  | k :: ks, u :: us, j, x => (if k.flatK = some j then x else u) :: fRep ks us j x
  | _, _, _, _ => []
def dPut (nk : Bool) (ks us : List PV) (k x : PV) : Option (List PV × List PV) := match nk with
  | false => (match k.flatK with
    | some j => if ks.length < 16777216 then some (if fHas ks j = true then (ks, fRep ks us j x) else (ks ++ [kP j], us ++ [x])) else none
    | none => none)
  | true => (match k with
    | .tup zs => (match PV.toK (.tup zs) with
      | some j => if j.depth ≤ 8 ∧ ks.length < 16777216 then some (if pHas ks (.tup zs) = true then (ks, pRep ks us (.tup zs) x) else (ks ++ [.tup zs], us ++ [x])) else none
      | none => none)
    | _ => none)
theorem pHas_eq {k : PV} {j : NestedKey} (hj : k.toK = some j) : ∀ {ks : List PV} {kk : List NestedKey}, PV.toKs ks = some kk → pHas ks k = kHas kk j
  | [], kk, h => by rw [PV.toKs] at h; cases h; rfl
  | x :: xs, kk, h => by
    obtain ⟨d, ds, e1, e2, rfl⟩ := toKs_cons h
    have ih := pHas_eq hj e2
    unfold pHas kHas at ih ⊢
    rw [List.any_cons, List.any_cons, PV.eqK_eq x k d j e1 hj, ih]
theorem pRep_eq {k : PV} {j : NestedKey} {z : PV} (hj : k.toK = some j) : ∀ {ks : List PV} {kk : List NestedKey} {us : List PV}, PV.toKs ks = some kk → pRep ks us k z = kRep kk us j z
  | [], kk, us, h => by rw [PV.toKs] at h; cases h; unfold pRep kRep; rfl
  | x :: xs, kk, [], h => by
    obtain ⟨d, ds, _, _, rfl⟩ := toKs_cons h
    unfold pRep kRep; rfl
  | x :: xs, kk, u :: us, h => by
    obtain ⟨d, ds, e1, e2, rfl⟩ := toKs_cons h
    rw [pRep, kRep, PV.eqK_eq x k d j e1 hj, pRep_eq hj e2]
    by_cases c : d = j
    · rw [decide_eq_true c, if_pos c, cond_true]
    · rw [decide_eq_false c, if_neg c, cond_false]
/-- the entries of a nested dict with j stored -/
def xPut (xs : List (NestedKey × Addr × V)) (j : NestedKey) (a : Addr) (v : V) : List (NestedKey × Addr × V) :=
  if kHas (xs.map (·.1)) j = true then xs.map (fun x => if x.1 = j then (x.1, x.2.1, v) else x) else xs ++ [(j, a, v)]
theorem XV.keys : ∀ {xs : List (NestedKey × Addr × V)} {ys : List (NestedKey × Addr × Value)}, XV xs ys → ys.map (·.1) = xs.map (·.1)
  | _, _, .nil => rfl
  | _, _, .cons ⟨e, _, _⟩ t => by rw [List.map_cons, List.map_cons, e, XV.keys t]
theorem atKey_has {ys : List (NestedKey × Addr × Value)} {j : NestedKey} : (atKey ys j).isSome = kHas (ys.map (·.1)) j := by
  induction ys with
  | nil => rfl
  | cons y ys ih =>
    unfold atKey kHas at *
    rw [List.find?_cons, List.map_cons, List.any_cons]
    by_cases h : y.1 = j
    · rw [show decide (y.1 = j) = true from decide_eq_true h]; rfl
    · rw [show decide (y.1 = j) = false from decide_eq_false h]; simpa using ih
theorem XV.rep {j : NestedKey} {v : V} {u : Value} (r : RelV v u) : ∀ {xs : List (NestedKey × Addr × V)} {ys : List (NestedKey × Addr × Value)}, XV xs ys → XV (xs.map (fun x => if x.1 = j then (x.1, x.2.1, v) else x)) (ys.map (putAt j u))
  | _, _, .nil => .nil
  | x :: xs, y :: ys, .cons ⟨e1, e2, e3⟩ t => by
    rw [List.map_cons, List.map_cons]
    refine .cons ?_ (XV.rep r t)
    unfold putAt
    by_cases c : x.1 = j
    · rw [if_pos c, if_pos (e1.trans c)]
      exact ⟨e1, e2, r⟩
    · rw [if_neg c, if_neg (fun z => c (e1.symm.trans z))]
      exact ⟨e1, e2, e3⟩
theorem paired_app {α β : Type} {R : α → β → Prop} : ∀ {xs : List α} {ys : List β} {a : List α} {b : List β}, Paired R xs ys → Paired R a b → Paired R (xs ++ a) (ys ++ b)
  | _, _, _, _, .nil, h => h
  | _, _, _, _, .cons r t, h => .cons r (paired_app t h)
theorem XV.put {xs : List (NestedKey × Addr × V)} {ys : List (NestedKey × Addr × Value)} (h : XV xs ys) {j : NestedKey} {a : Addr} {v : V} {u : Value} (r : RelV v u) : XV (xPut xs j a v) (storedH ys j a u) := by
  unfold xPut storedH
  rw [atKey_has, h.keys]
  split
  · exact XV.rep r h
  · exact paired_app h (.cons ⟨rfl, rfl, r⟩ .nil)
theorem XV.rel : ∀ {w : World} {P : Program} {xs : List (NestedKey × Addr × V)} {ys : List (NestedKey × Addr × Value)}, XV xs ys → Paired (fun (x : NestedKey × Addr × V) (e : DictEntry) => ∃ v, RelV x.2.2 v ∧ e = ⟨x.1.hash w, .ref x.2.1, v⟩) xs (ys.map (entryOfKey (nestedKind P w)))
  | _, _, _, _, .nil => .nil
  | w, P, x :: xs, y :: ys, .cons ⟨e1, e2, r⟩ t => by
    refine .cons ⟨y.2.2, r, ?_⟩ (XV.rel t)
    show (⟨(nestedKind P w).hash y.1, .ref y.2.1, y.2.2⟩ : DictEntry) = _
    rw [e1, e2]
    rfl
/-- the new object -/
theorem dn_new {P : Program} {w : World} {H' : Hp} {h' : Heap} {a : Addr} {xs : List (NestedKey × Addr × V)} {ys : List (NestedKey × Addr × Value)} (hd : (a == sysModules) = false) (hl : xs.length ≤ sizeLine) (x : XV xs ys) (h : h'.DictOfH (nestedKind P w) a ys) : ObjOk P w H' h' a (DN w a xs) := by
  obtain ⟨o, es, ep, ho, hc, hdt, he, _, hn⟩ := h
  refine ⟨⟨hd, hl, o, es, ep, ho, hc, hdt, by rw [he]; exact x.rel, by rw [← x.keys]; exact hn⟩, ⟨o, ho⟩, ?_⟩
  rintro h1 h2 ⟨z1, z2, o1, es1, ep1, q1, q2, q3, q4, q5⟩ k
  exact ⟨z1, z2, o1, es1, ep1, k _ q1, q2, q3, q4, q5⟩
theorem xPut_len {xs : List (NestedKey × Addr × V)} {j : NestedKey} {a : Addr} {v : V} : (xPut xs j a v).length ≤ xs.length + 1 := by
  unfold xPut
  split <;> simp
theorem toKs_app : ∀ {xs ys : List PV} {k l : List NestedKey}, PV.toKs xs = some k → PV.toKs ys = some l → PV.toKs (xs ++ ys) = some (k ++ l)
  | [], ys, k, l, h, h' => by rw [PV.toKs] at h; cases h; exact h'
  | x :: xs, ys, k, l, h, h' => by
    rw [PV.toKs] at h
    split at h
    · rename_i d ds e1 e2
      cases h
      rw [List.cons_append, PV.toKs, e1, toKs_app e2 h']
      rfl
    · cases h
section
variable {w : World} {K : PySem.W.Frag} {G : Nat → Addr} {H : Hp} {Z : Addr → Prop}
theorem kRep_rel : ∀ {xs : List (NestedKey × Addr × V)} {us : List PV} {j : NestedKey} {x : PV} {v : V}, RelPs w K G H Z us (xs.map (·.2.2)) → RelP w K G H Z x v →
    RelPs w K G H Z (kRep (xs.map (·.1)) us j x) ((xs.map (fun x => if x.1 = j then (x.1, x.2.1, v) else x)).map (·.2.2))
  | [], us, j, x, v, h, hx => by unfold kRep; exact RelPs.nil
  | y :: xs, [], j, x, v, h, hx => by rw [RelPs] at h; cases h
  | y :: xs, u :: us, j, x, v, h, hx => by
    rw [RelPs] at h
    obtain ⟨v0, r, e, h1, h2⟩ := h
    rw [List.map_cons] at e
    injection e with ev er
    subst ev er
    rw [List.map_cons, List.map_cons, List.map_cons, kRep]
    refine RelPs.cons ?_ (kRep_rel h2 hx)
    by_cases c : y.1 = j
    · rw [if_pos c, if_pos c]; exact hx
    · rw [if_neg c, if_neg c]; exact h1
theorem nput_rel {xs : List (NestedKey × Addr × V)} {ks us : List PV} {j : NestedKey} {k x : PV} {v : V} {b : Addr} (hk : PV.toKs ks = some (xs.map (·.1))) (hd : ∀ x ∈ xs, x.1.depth ≤ 8) (h1 : RelPs w K G H Z ks (xs.map fun x => V.ref x.2.1)) (h2 : RelPs w K G H Z us (xs.map (·.2.2)))
    (ek : k.toK = some j) (hj : j.depth ≤ 8) (rk : RelP w K G H Z k (.ref b)) (rx : RelP w K G H Z x v) :
    ∃ ks' us', (if kHas (xs.map (·.1)) j = true then (ks, kRep (xs.map (·.1)) us j x) else (ks ++ [k], us ++ [x])) = (ks', us') ∧ PV.toKs ks' = some ((xPut xs j b v).map (·.1)) ∧ (∀ x ∈ xPut xs j b v, x.1.depth ≤ 8) ∧
      RelPs w K G H Z ks' ((xPut xs j b v).map fun x => V.ref x.2.1) ∧ RelPs w K G H Z us' ((xPut xs j b v).map (·.2.2)) := by
  unfold xPut
  by_cases c : kHas (xs.map (·.1)) j = true
  · rw [if_pos c, if_pos c]
    have e1 : (xs.map (fun x => if x.1 = j then (x.1, x.2.1, v) else x)).map (·.1) = xs.map (·.1) := by
      rw [List.map_map]; apply List.map_congr_left; intro y _; simp only [Function.comp]; split <;> rfl
    have e2 : (xs.map (fun x => if x.1 = j then (x.1, x.2.1, v) else x)).map (fun x => V.ref x.2.1) = xs.map (fun x => V.ref x.2.1) := by
      rw [List.map_map]; apply List.map_congr_left; intro y _; simp only [Function.comp]; split <;> rfl
    refine ⟨_, _, rfl, by rw [e1]; exact hk, fun y hy => ?_, by rw [e2]; exact h1, kRep_rel h2 rx⟩
    obtain ⟨y0, hy0, rfl⟩ := List.mem_map.mp hy
    split
    · exact hd y0 hy0
    · exact hd y0 hy0
  · rw [if_neg c, if_neg c]
    refine ⟨_, _, rfl, ?_, fun y hy => ?_, ?_, ?_⟩
    · rw [List.map_append]
      refine toKs_app hk ?_
      rw [PV.toKs, ek, PV.toKs]
      rfl
    · rcases List.mem_append.mp hy with hy | hy
      · exact hd y hy
      · rw [List.mem_singleton.mp hy]; exact hj
    · rw [List.map_append]; exact h1.app (RelPs.cons rk RelPs.nil)
    · rw [List.map_append]; exact h2.app (RelPs.cons rx RelPs.nil)
theorem fRep_rel : ∀ {kvs : List (Key × V)} {us : List PV} {j : Key} {x : PV} {v : V}, RelPs w K G H Z us (kvs.map (·.2)) → RelP w K G H Z x v →
    RelPs w K G H Z (fRep (kvs.map fun kv => kP kv.1) us j x) ((kvs.map (fun kv => if kv.1 = j then (kv.1, v) else kv)).map (·.2))
  | [], us, j, x, v, h, hx => by unfold fRep; exact RelPs.nil
  | y :: xs, [], j, x, v, h, hx => by rw [RelPs] at h; cases h
  | y :: xs, u :: us, j, x, v, h, hx => by
    rw [RelPs] at h
    obtain ⟨v0, r, e, h1, h2⟩ := h
    rw [List.map_cons] at e
    injection e with ev er
    subst ev er
    rw [List.map_cons, List.map_cons, List.map_cons, fRep, flatK_kP]
    refine RelPs.cons ?_ (fRep_rel h2 hx)
    by_cases c : y.1 = j
    · rw [if_pos c, if_pos (congrArg some c)]; exact hx
    · rw [if_neg c, if_neg (fun z => c (Option.some.inj z))]; exact h1
theorem fHas_any : ∀ {kvs : List (Key × V)} {j : Key}, fHas (kvs.map fun kv => kP kv.1) j = kvs.any fun kv => decide (kv.1 = j)
  | [], j => rfl
  | y :: xs, j => by
    unfold fHas
    rw [List.map_cons, List.any_cons, List.any_cons, flatK_kP]
    rw [show (List.map (fun kv => kP kv.1) xs).any (fun k => decide (k.flatK = some j)) = xs.any (fun kv => decide (kv.1 = j)) from fHas_any]
    congr 1
    by_cases c : y.1 = j
    · rw [decide_eq_true c, decide_eq_true (congrArg some c)]
    · rw [decide_eq_false c, decide_eq_false (fun z => c (Option.some.inj z))]
theorem fput_rel {kvs : List (Key × V)} {us : List PV} {j : Key} {x : PV} {v : V} (h : RelPs w K G H Z us (kvs.map (·.2))) (rx : RelP w K G H Z x v) :
    ∃ ks' us', (if fHas (kvs.map fun kv => kP kv.1) j = true then (kvs.map fun kv => kP kv.1, fRep (kvs.map fun kv => kP kv.1) us j x) else ((kvs.map fun kv => kP kv.1) ++ [kP j], us ++ [x])) = (ks', us') ∧
      ks' = (putK kvs j v).map (fun kv => kP kv.1) ∧ RelPs w K G H Z us' ((putK kvs j v).map (·.2)) := by
  unfold putK
  rw [fHas_any]
  by_cases c : (kvs.any fun kv => decide (kv.1 = j)) = true
  · rw [if_pos c, if_pos c]
    refine ⟨_, _, rfl, ?_, fRep_rel h rx⟩
    rw [List.map_map]; apply List.map_congr_left; intro y _; simp only [Function.comp]; split <;> rfl
  · rw [if_neg c, if_neg c]
    refine ⟨_, _, rfl, by rw [List.map_append]; rfl, ?_⟩
    rw [List.map_append]; exact h.app (RelPs.cons rx RelPs.nil)
end
/-- o[k] = y -/
def putIx (z k y : VV) (st : Sto) : Option Sto := match z, k, y with
  | .ref n, .p kk, .p x => (match st[n]? with
    | some (some (.lst false xs)) => (match kk with
      | .int i => (match ixN xs.length i with
        | some j => some (st.set n (some (.lst false (xs.set j x))))
        | none => none)
      | _ => none)
    | some (some (.dct nk false ks us)) => (match dPut nk ks us kk x with
      | some r => some (st.set n (some (.dct nk false r.1 r.2)))
      | none => none)
    | _ => none)
  | _, _, _ => none
def tPutEv (w : World) (K : PySem.W.Frag) (G : Nat → Addr) : TSet := fun o i v H Q => ∃ vw z k y st', vw.H = H ∧ VOk w K G vw ∧ RelVV w K G vw z o ∧ RelVV w K G vw k i ∧ RelVV w K G vw y v ∧ putIx z k y vw.st = some st' ∧
  ∀ vw', Le K vw vw' → VOk w K G vw' → vw'.st = st' → Q vw'.H
section
variable {X : Cx} {G : Nat → Addr} {E : WE}
theorem pset_ev (hu : X.A.units + 65 < cLine) : PSet X (tPutEv X.w X.K G) := by
  rintro pins s σ H o i v ov iv u Q I ro ri rv ⟨vw, z, k, y, st', rfl, ok, rz, rk, ry, hp, q⟩
  unfold putIx at hp
  split at hp
  · rename_i n kk x
    obtain ⟨hn, rfl⟩ := rz
    have rk : RelP X.w X.K G vw.H vw.Z kk i := rk
    have ry : RelP X.w X.K G vw.H vw.Z x v := ry
    split at hp
    · rename_i xs eo
      split at hp
      · rename_i j0
        split at hp
        · rename_i j hj
          cases hp
          obtain ⟨vs, h1, h2, h3⟩ := ok.ob n _ eo
          rw [RelP] at rk
          refine set_list pins s σ vw.H _ _ _ _ _ _ Q I ro ri rv ⟨_, vs, _, j, rfl, rk, h1, by rw [← h3.len]; exact hj, ?_⟩
          have l := Le.write (K := X.K) (o := .lst (vs.set j v)) (ob := .lst false (xs.set j x)) ok eo h1 rfl
          exact q (vw.write n (.lst (vs.set j v)) (.lst false (xs.set j x))) l (VOk.write ok eo h1 rfl ⟨_, upd_same, by rw [List.length_set]; exact h2, (l.ps h3).set (l.p ry) j⟩) rfl
        · cases hp
      · cases hp
    · rename_i nk ks us eo
      split at hp
      · rename_i r hr
        cases hp
        cases nk with
        | false =>
          unfold dPut at hr
          dsimp only at hr
          split at hr
          · rename_i j hj
            split at hr
            · rename_i hl
              cases hr
              obtain ⟨kvs, h1, rfl, h3⟩ := ok.ob n _ eo
              have h1 : vw.H (vw.al n) = some (.dK kvs) := h1
              have ek : i = kV j := by
                cases kk with
                | int a => rw [RelP] at rk; cases hj; exact rk
                | str a => rw [RelP] at rk; cases hj; exact rk
                | _ => cases hj
              obtain ⟨ks', us', e1, e2, e3⟩ := fput_rel (j := j) h3 ry
              cases ro
              refine d_setItem (H' := upd vw.H (vw.al n) (.dK (putK kvs j v))) (by omega) I (.inl ⟨kvs, j, h1, ek, by rw [List.length_map] at hl; exact hl, rfl⟩) ri rv fun s' I' => ⟨_, I', ?_⟩
              have l := Le.write (K := X.K) (o := .dK (putK kvs j v)) (ob := .dct false false ks' us') ok eo h1 rfl
              rw [e1] at q
              exact q (vw.write n (.dK (putK kvs j v)) (.dct false false ks' us')) l (VOk.write ok eo h1 rfl ⟨_, upd_same, e2, l.ps e3⟩) rfl
            · cases hr
          · cases hr
        | true =>
          unfold dPut at hr
          dsimp only at hr
          split at hr
          · rename_i kt
            split at hr
            · rename_i j hj
              split at hr
              · rename_i hl
                cases hr
                obtain ⟨xs, h1, h2, h3, h4, h5⟩ := ok.ob n _ eo
                have h1 : vw.H (vw.al n) = some (DN X.w (vw.al n) xs) := h1
                rw [pHas_eq hj h2, pRep_eq hj h2] at q
                have rk' := rk
                rw [RelP] at rk'
                obtain ⟨b, vs, rfl, t1, t2, t3⟩ := rk'
                cases ro
                cases ri
                obtain ⟨g1, g2, ys, g3, g4⟩ := dn_at I (.inl h1) h2 h3 h4
                obtain ⟨ks', us', e1, e2, e3, e4, e5⟩ := nput_rel (b := b) h2 h3 h4 h5 hj hl.1 rk ry
                have hlx : xs.length < sizeLine := by
                  have := h4.len
                  rw [List.length_map] at this
                  rw [← this]; exact hl.2
                refine wpAny_setItem_heap (knd := nestedKind X.prog X.w) (show X.A.in1.units + 8 < cLine from by show X.A.units + 1 + 8 < cLine; omega) ⟨RelP.nk I _ _ _ _ rk rfl hj, hl.1⟩ g4 (fun h' dd' hs => ?_) (by rw [← Paired.length g3]; omega)
                have I2 := d_write (t' := s.toks + (nestedKind X.prog X.w).draws j) (ob := DN X.w (vw.al n) (xPut xs j b v)) I (by rw [h1]; exact True.intro) hs (let ⟨o, _, _, ho, _⟩ := dd'; ⟨o, ho⟩)
                  (dn_new g1 (by have := xPut_len (xs := xs) (j := j) (a := b) (v := v); omega) (g3.put rv) dd')
                refine ⟨_, I2, ?_⟩
                have l := Le.write (K := X.K) (o := DN X.w (vw.al n) (xPut xs j b v)) (ob := .dct true false ks' us') ok eo h1 rfl
                rw [e1] at q
                exact q (vw.write n _ (.dct true false ks' us')) l (VOk.write ok eo h1 rfl ⟨_, upd_same, e2, e3, l.ps e4, l.ps e5⟩) rfl
              · cases hr
            · cases hr
          · cases hr
      · cases hp
    · cases hp
  · cases hp
variable {pos pos' : Pos} {o i value : Expr} {ra rk rv : RX}
def sPut (ra rk rv : RX) : RS := fun env st => (rv env st).toS env fun y st1 => (ra env st1).toS env fun z st2 => (rk env st2).toS env fun k st3 => match putIx z k y st3 with
  | some st4 => .nx env st4
  | none => .no
theorem pxs_put (hu : X.A.units + 65 < cLine) (ha : PX X G E o ra) (hk : PX X G E i rk) (hv : PX X G E value rv)
    (has : ∀ v, assign (.Subscript o i pos') X.env v = (do
      let ov ← holding [v] (eval o X.env)
      let iv ← holding [v, ov] (eval i X.env)
      standAt pos'
      holding [v, ov, iv] (setItem ov iv v)
      release [v, ov, iv] []) := by intro _; rfl)
    (hs : swapsWithSole [.Subscript o i pos'] value pos.line X.env = pure false := by rfl) (hw : swappedStores [.Subscript o i pos'] value X.env = pure none := by rfl)
    (h1 : (assignEach [.Subscript o i pos'] X.env).map (·.2) = [assign (.Subscript o i pos') X.env] := by rfl) : PXS X G E (.Assign [.Subscript o i pos'] value pos) (sPut ra rk rv) :=
  (ps_asg hv (pg_sub ha hk (pset_ev hu) has) hs hw h1).weak fun D σ H ⟨vw, env, eH, ok, re, q⟩ => by
    refine ⟨vw, env, eH, ok, re, (GS.bind q).imp fun vw1 y l1 ok1 q1 u ry => ⟨vw1, env, rfl, ok1, re.mono l1, (GS.bind q1).imp fun vw2 z l2 ok2 q2 v rz => ⟨vw2, env, rfl, ok2, (re.mono l1).mono l2, (GS.bind q2).imp fun vw3 k l3 ok3 q3 iv rk => ?_⟩⟩⟩
    split at q3
    · rename_i st4 hp
      exact ⟨vw3, z, k, y, st4, rfl, ok3, l3.v rz, rk, l3.v (l2.v ry), hp, fun vw' l o es => q3 vw' σ l o es ((((re.mono l1).mono l2).mono l3).mono l)⟩
    · exact q3.elim
end
end Ev
end S_Ev13
section S_Ev14
namespace Ev
open PySem PySem.Spec PyProof.Rows L2
/-! ### lists, tuples -/
/-- the items; true: a list -/
def seqOf (st : Sto) : VV → Option (Bool × List PV)
  | .p (.lst xs) => some (true, xs)
  | .p (.lsf xs) => some (true, xs)
  | .p (.tup xs) => some (false, xs)
  | .p _ => none
  | .ref n => match st[n]? with
    | some (some (.lst _ xs)) => some (true, xs)
    | _ => none
theorem seqOf_rel {w : World} {K : PySem.W.Frag} {G : Nat → Addr} {vw : Vw} {z : VV} {v : V} {b : Bool} {xs : List PV} (ok : VOk w K G vw) (r : RelVV w K G vw z v) (h : seqOf vw.st z = some (b, xs)) :
    ∃ p vs, v = .ref p ∧ vs.length ≤ sizeLine ∧ RelPs w K G vw.H vw.Z xs vs ∧ (if b = true then SqL K vw.H p vs else SqT K vw.H p vs) := by
  unfold seqOf at h
  split at h
  · cases h
    obtain ⟨p, vs, rfl, hz, hp, l, r⟩ := relLst.mp (show RelP w K G vw.H vw.Z (.lst xs) v from r)
    exact ⟨p, vs, rfl, l, r, by rw [if_pos rfl]; exact .of hp⟩
  · cases h
    obtain ⟨p, vs, rfl, hp, l, r⟩ := relLsf.mp (show RelP w K G vw.H vw.Z (.lsf xs) v from r)
    exact ⟨p, vs, rfl, l, r, by rw [if_pos rfl]; exact hp.sq⟩
  · cases h
    obtain ⟨p, vs, rfl, hp, l, r⟩ := relTup.mp (show RelP w K G vw.H vw.Z (.tup xs) v from r)
    exact ⟨p, vs, rfl, l, r, by rw [if_neg Bool.false_ne_true]; exact hp⟩
  · cases h
  · split at h
    · rename_i eo
      cases h
      obtain ⟨vs, h1, h2, h3⟩ := ok.ob _ _ eo
      exact ⟨_, vs, r.2, h2, h3, by rw [if_pos rfl]; exact .of h1⟩
    · cases h
theorem seqOf_both {w : World} {K : PySem.W.Frag} {G : Nat → Addr} {vw : Vw} {z : VV} {v : V} {b : Bool} {xs : List PV} (ok : VOk w K G vw) (r : RelVV w K G vw z v) (h : seqOf vw.st z = some (b, xs)) :
    ∃ p vs, v = .ref p ∧ vs.length ≤ sizeLine ∧ RelPs w K G vw.H vw.Z xs vs ∧ (SqL K vw.H p vs ∨ SqT K vw.H p vs) := by
  obtain ⟨p, vs, e, l, r, h⟩ := seqOf_rel ok r h
  refine ⟨p, vs, e, l, r, ?_⟩
  cases b with
  | true => exact .inl (by rw [if_pos rfl] at h; exact h)
  | false => exact .inr (by rw [if_neg Bool.false_ne_true] at h; exact h)
/-- a dict's keys and values -/
def dctOf (st : Sto) : VV → Option (Bool × List PV × List PV)
  | .p (.dct nk ks us) => some (nk, ks, us)
  | .p _ => none
  | .ref n => match st[n]? with
    | some (some (.dct nk _ ks us)) => some (nk, ks, us)
    | _ => none
theorem Lk.rd {H : Hp} {a : Addr} {u : HO} {lk : Bool} (h : Lk H a u lk) : Rd H a u := by
  cases lk with
  | true => obtain ⟨o, h⟩ := h; exact .inr ⟨o, h⟩
  | false => exact .inl h
def DctRd (w : World) (K : PySem.W.Frag) (G : Nat → Addr) (vw : Vw) (p : Addr) (ks us : List PV) : Bool → Prop
  | true => ∃ xs : List (NestedKey × Addr × V), Rd vw.H p (DN w p xs) ∧ PV.toKs ks = some (xs.map (·.1)) ∧ (∀ x ∈ xs, x.1.depth ≤ 8) ∧ RelPs w K G vw.H vw.Z ks (xs.map fun x => V.ref x.2.1) ∧ RelPs w K G vw.H vw.Z us (xs.map (·.2.2))
  | false => ∃ kvs : List (Key × V), Rd vw.H p (.dK kvs) ∧ ks = kvs.map (fun kv => kP kv.1) ∧ RelPs w K G vw.H vw.Z us (kvs.map (·.2))
theorem dctOf_rel {w : World} {K : PySem.W.Frag} {G : Nat → Addr} {vw : Vw} {z : VV} {v : V} {nk : Bool} {ks us : List PV} (ok : VOk w K G vw) (r : RelVV w K G vw z v) (h : dctOf vw.st z = some (nk, ks, us)) :
    ∃ p, v = .ref p ∧ DctRd w K G vw p ks us nk := by
  unfold dctOf at h
  split at h
  · cases h
    have r' : RelP w K G vw.H vw.Z (.dct nk ks us) v := r
    cases nk with
    | true => rw [RelP] at r'; obtain ⟨a, e, hz, xs, h1, h2, h3, h4, h5⟩ := r'; exact ⟨a, e, xs, h1.rd, h2, h3, h4, h5⟩
    | false => rw [RelP] at r'; obtain ⟨a, e, hz, kvs, h1, h2, h3⟩ := r'; exact ⟨a, e, kvs, h1.rd, h2, h3⟩
  · cases h
  · split at h
    · rename_i eo
      cases h
      cases nk with
      | true => obtain ⟨xs, h1, h2, h3, h4, h5⟩ := ok.ob _ _ eo; exact ⟨_, r.2, xs, h1.rd, h2, h3, h4, h5⟩
      | false => obtain ⟨kvs, h1, h2, h3⟩ := ok.ob _ _ eo; exact ⟨_, r.2, kvs, h1.rd, h2, h3⟩
    · cases h
theorem paired_get {α β : Type} {R : α → β → Prop} : ∀ {xs : List α} {ys : List β} {i : Nat} {x : α}, Paired R xs ys → xs[i]? = some x → ∃ y, ys[i]? = some y ∧ R x y
  | _, _, i, x, .nil, h => by simp at h
  | _, _, 0, x, .cons r t, h => by simp at h; subst h; exact ⟨_, rfl, r⟩
  | _, _, i + 1, x, .cons r t, h => by
    simp at h
    obtain ⟨y, e, q⟩ := paired_get t h
    exact ⟨y, by simpa using e, q⟩
/-! ### methods of lists -/
section
variable {X : Cx} {G : Nat → Addr} {E : WE}
def isL (st : Sto) (z : VV) : Bool := match seqOf st z with
  | some (true, _) => true
  | _ => false
theorem tyL : TyOk X G "list" isL := fun pins s σ vw z v u I ok rz ru h => by
  unfold isL at h
  split at h
  · rename_i xs e
    obtain ⟨p, vs, rfl, l, r, hh⟩ := seqOf_rel ok rz e
    rw [if_pos rfl] at hh
    exact tyV_is I ru (.inl ⟨rfl, vs, hh⟩)
  · cases h
def bAppend : MF := fun xs st => match xs with
  | [.ref n, .p x] => (match st[n]? with
    | some (some (.lst false ys)) => if ys.length < 16777216 then .ok (.p .non) (st.set n (some (.lst false (ys ++ [x])))) else .no
    | _ => .no)
  | _ => .no
def bExtend : MF := fun xs st => match xs with
  | [.ref n, .p (.lst zs)] => (match st[n]? with
    | some (some (.lst false ys)) => if ys.length + zs.length ≤ 16777216 then .ok (.p .non) (st.set n (some (.lst false (ys ++ zs)))) else .no
    | _ => .no)
  | _ => .no
def bPop0 : MF := fun xs st => match xs with
  | [.ref n] => (match st[n]? with
    | some (some (.lst false ys)) => (match ys[ys.length - 1]? with
      | some y => .ok (.p y) (st.set n (some (.lst false ys.dropLast)))
      | none => .no)
    | _ => .no)
  | _ => .no
def bPopAt : MF := fun xs st => match xs with
  | [.ref n, .p (.int i)] => (match st[n]? with
    | some (some (.lst false ys)) => if -(2 ^ 63) ≤ i ∧ i < 2 ^ 63 then (match seqIndex? i ys.length with
      | some k => (match ys[k]? with
        | some y => .ok (.p y) (st.set n (some (.lst false (ys.eraseIdx k))))
        | none => .no)
      | none => .no) else .no
    | _ => .no)
  | _ => .no
theorem vvNon' {w : World} {K : PySem.W.Frag} {vw : Vw} : RelVV w K G vw (.p .non) .non := by
  show RelP w K G vw.H vw.Z .non .non
  rw [RelP]
theorem RelPs.dropLast {w : World} {K : PySem.W.Frag} {H : Hp} {Z : Addr → Prop} {xs : List PV} {vs : List V} (h : RelPs w K G H Z xs vs) : RelPs w K G H Z xs.dropLast vs.dropLast := by
  rw [List.dropLast_eq_take, List.dropLast_eq_take, h.len]
  exact h.take _
theorem RelPs.eraseIdx {w : World} {K : PySem.W.Frag} {H : Hp} {Z : Addr → Prop} {xs : List PV} {vs : List V} (h : RelPs w K G H Z xs vs) (k : Nat) : RelPs w K G H Z (xs.eraseIdx k) (vs.eraseIdx k) := by
  rw [List.eraseIdx_eq_take_drop_succ, List.eraseIdx_eq_take_drop_succ]
  exact (h.take _).app (h.drop _)
theorem mb_append : MB X G "list.append" bAppend := by
  rintro pins s σ H x vs u us Q I ru rus ⟨vw, xs, rfl, ok, rs, q⟩
  unfold bAppend at q
  split at q
  · rename_i n x0 
    obtain ⟨_, _, e0, r0, r1⟩ := rs
    cases e0
    split at q
    · rename_i ys eo
      split at q
      · rename_i hl
        obtain ⟨v1, _, rfl, rx, rfl⟩ := r1
        obtain ⟨hn, rfl⟩ := r0
        obtain ⟨ws, h1, h2, h3⟩ := ok.ob n _ eo
        refine mt_append pins s σ vw.H _ _ _ _ Q I ru rus ⟨_, ws, v1, rfl, rfl, h1, by rw [← h3.len]; exact hl, ?_⟩
        have l := Le.write (K := X.K) (o := .lst (ws ++ [v1])) (ob := .lst false (ys ++ [x0])) ok eo h1 rfl
        exact q (vw.write n (.lst (ws ++ [v1])) (.lst false (ys ++ [x0]))) l (VOk.write ok eo h1 rfl ⟨_, upd_same, by rw [List.length_append]; have := h3.len; show ws.length + 1 ≤ 16777216; omega, (l.ps h3).app (RelPs.cons (l.p rx) RelPs.nil)⟩) rfl _ vvNon'
      · exact q.elim
    · exact q.elim
  · exact q.elim
theorem mb_extend : MB X G "list.extend" bExtend := by
  rintro pins s σ H x vs u us Q I ru rus ⟨vw, xs, rfl, ok, rs, q⟩
  unfold bExtend at q
  split at q
  · rename_i n zs
    obtain ⟨_, _, e0, r0, r1⟩ := rs
    cases e0
    split at q
    · rename_i ys eo
      split at q
      · rename_i hl
        obtain ⟨v1, _, rfl, rx, rfl⟩ := r1
        obtain ⟨hn, rfl⟩ := r0
        obtain ⟨ws, h1, h2, h3⟩ := ok.ob n _ eo
        obtain ⟨p, ts, rfl, hz, hp, hl2, rz⟩ := relLst.mp (show RelP X.w X.K G vw.H vw.Z (.lst zs) v1 from rx)
        refine mt_extend pins s σ vw.H _ _ _ _ Q I ru rus ⟨_, p, ws, ts, rfl, rfl, h1, hp, by rw [← h3.len, ← rz.len]; exact hl, ?_⟩
        have l := Le.write (K := X.K) (o := .lst (ws ++ ts)) (ob := .lst false (ys ++ zs)) ok eo h1 rfl
        exact q (vw.write n (.lst (ws ++ ts)) (.lst false (ys ++ zs))) l (VOk.write ok eo h1 rfl ⟨_, upd_same, by rw [List.length_append, ← h3.len, ← rz.len]; exact hl, (l.ps h3).app (l.ps rz)⟩) rfl _ vvNon'
      · exact q.elim
    · exact q.elim
  · exact q.elim
theorem mb_pop0 : MB X G "list.pop" bPop0 := by
  rintro pins s σ H x vs u us Q I ru rus ⟨vw, xs, rfl, ok, rs, q⟩
  unfold bPop0 at q
  split at q
  · rename_i n
    obtain ⟨_, _, e0, r0, r1⟩ := rs
    cases e0
    split at q
    · rename_i ys eo
      split at q
      · rename_i y hy
        have r1 : vs = [] := r1
        subst r1
        obtain ⟨hn, rfl⟩ := r0
        obtain ⟨ws, h1, h2, h3⟩ := ok.ob n _ eo
        obtain ⟨v1, e1, rv⟩ := h3.get hy
        refine mt_pop pins s σ vw.H _ _ _ _ Q I ru rus ⟨_, ws, v1, rfl, rfl, h1, by rw [← h3.len]; exact e1, ?_⟩
        have l := Le.write (K := X.K) (o := .lst ws.dropLast) (ob := .lst false ys.dropLast) ok eo h1 rfl
        exact q (vw.write n (.lst ws.dropLast) (.lst false ys.dropLast)) l (VOk.write ok eo h1 rfl ⟨_, upd_same, by rw [List.length_dropLast]; omega, (l.ps h3).dropLast⟩) rfl _ (l.p rv)
      · exact q.elim
    · exact q.elim
  · exact q.elim
theorem mb_popAt : MB X G "list.pop" bPopAt := by
  rintro pins s σ H x vs u us Q I ru rus ⟨vw, xs, rfl, ok, rs, q⟩
  unfold bPopAt at q
  split at q
  · rename_i n i
    obtain ⟨_, _, e0, r0, r1⟩ := rs
    cases e0
    split at q
    · rename_i ys eo
      split at q
      · rename_i hi
        split at q
        · rename_i k hk
          split at q
          · rename_i y hy
            obtain ⟨v1, _, rfl, rx, rfl⟩ := r1
            obtain ⟨hn, rfl⟩ := r0
            obtain rfl := RelVV.int rx
            obtain ⟨ws, h1, h2, h3⟩ := ok.ob n _ eo
            obtain ⟨v1, e1, rv⟩ := h3.get hy
            refine mt_popAt pins s σ vw.H _ _ _ _ Q I ru rus ⟨_, ws, i, k, v1, rfl, rfl, h1, hi.1, hi.2, by rw [← h3.len]; exact hk, e1, ?_⟩
            have l := Le.write (K := X.K) (o := .lst (ws.eraseIdx k)) (ob := .lst false (ys.eraseIdx k)) ok eo h1 rfl
            exact q (vw.write n (.lst (ws.eraseIdx k)) (.lst false (ys.eraseIdx k))) l (VOk.write ok eo h1 rfl ⟨_, upd_same, by have := List.length_eraseIdx_le ws k; omega, (l.ps h3).eraseIdx k⟩) rfl _ (l.p rv)
          · exact q.elim
        · exact q.elim
      · exact q.elim
    · exact q.elim
  · exact q.elim
variable {pos p apos cpos : Pos} {o e : Expr} {es : List Expr} {t : RA} {ra : RX}
theorem px_append (ho : PX X G E o ra) (ha : PXA X G E [e] t)
    (hbase : attributeBase o "append" X.env (eval o X.env) = eval o X.env := by rfl)
    (hfew : ((backTo cpos (starEach [e] X.env)).all (fun x => !x.1) && (backToKw cpos (keywordEach [] X.env)).all (fun x => x.1.isSome)
      && decide (([e] : List Expr).length + ([] : List Keyword).length + (if ([] : List Keyword).isEmpty then 0 else 1) < 30)) = true := by rfl)
    (hline : (apos.endLine == cpos.line) = true := by rfl) (hs : starEach [e] X.env = (false, eval e X.env) :: starEach [] X.env := by rfl) (hplain : (backTo cpos (starEach [] X.env)).any (·.1) = false := by rfl) :
    PX X G E (.Call (.Attribute o "append" apos) [e] [] cpos) (rBM isL bAppend ra t) := px_bm tyL PySem.F.plainAttrs_list PySem.F.slot_list_append PySem.F.type_list_append mb_append ho ha hbase hfew hline hs hplain
theorem px_extend (ho : PX X G E o ra) (ha : PXA X G E [e] t)
    (hbase : attributeBase o "extend" X.env (eval o X.env) = eval o X.env := by rfl)
    (hfew : ((backTo cpos (starEach [e] X.env)).all (fun x => !x.1) && (backToKw cpos (keywordEach [] X.env)).all (fun x => x.1.isSome)
      && decide (([e] : List Expr).length + ([] : List Keyword).length + (if ([] : List Keyword).isEmpty then 0 else 1) < 30)) = true := by rfl)
    (hline : (apos.endLine == cpos.line) = true := by rfl) (hs : starEach [e] X.env = (false, eval e X.env) :: starEach [] X.env := by rfl) (hplain : (backTo cpos (starEach [] X.env)).any (·.1) = false := by rfl) :
    PX X G E (.Call (.Attribute o "extend" apos) [e] [] cpos) (rBM isL bExtend ra t) := px_bm tyL PySem.F.plainAttrs_list PySem.F.slot_list_extend PySem.F.type_list_extend mb_extend ho ha hbase hfew hline hs hplain
theorem px_pop1 (ho : PX X G E o ra) (ha : PXA X G E [e] t)
    (hbase : attributeBase o "pop" X.env (eval o X.env) = eval o X.env := by rfl)
    (hfew : ((backTo cpos (starEach [e] X.env)).all (fun x => !x.1) && (backToKw cpos (keywordEach [] X.env)).all (fun x => x.1.isSome)
      && decide (([e] : List Expr).length + ([] : List Keyword).length + (if ([] : List Keyword).isEmpty then 0 else 1) < 30)) = true := by rfl)
    (hline : (apos.endLine == cpos.line) = true := by rfl) (hs : starEach [e] X.env = (false, eval e X.env) :: starEach [] X.env := by rfl) (hplain : (backTo cpos (starEach [] X.env)).any (·.1) = false := by rfl) :
    PX X G E (.Call (.Attribute o "pop" apos) [e] [] cpos) (rBM isL bPopAt ra t) := px_bm tyL PySem.F.plainAttrs_list PySem.F.slot_list_pop PySem.F.type_list_pop mb_popAt ho ha hbase hfew hline hs hplain
theorem px_pop0 (ho : PX X G E o ra) (hbase : attributeBase o "pop" X.env (eval o X.env) = eval o X.env := by rfl) (hline : (apos.endLine == cpos.line) = true := by rfl) :
    PX X G E (.Call (.Attribute o "pop" apos) [] [] cpos) (rBM isL bPop0 ra rNil) := px_bm0 tyL PySem.F.plainAttrs_list PySem.F.slot_list_pop PySem.F.type_list_pop mb_pop0 ho hbase hline
end
/-! ### len, int, list, tuple -/
section
variable {X : Cx} {G : Nat → Addr} {E : WE}
def bLen : MF := fun xs st => match xs with
  | [.p (.str z)] => if z.length ≤ 16777216 then .ok (.p (.int z.length)) st else .no
  | [z] => (match seqOf st z with
    | some (_, ys) => .ok (.p (.int ys.length)) st
    | none => (match dctOf st z with
      | some (_, ks, _) => .ok (.p (.int ks.length)) st
      | none => .no))
  | _ => .no
theorem toKs_len : ∀ {xs : List PV} {k : List NestedKey}, PV.toKs xs = some k → k.length = xs.length
  | [], k, h => by rw [PV.toKs] at h; cases h; rfl
  | x :: xs, k, h => by
    rw [PV.toKs] at h
    split at h
    · rename_i d ds e1 e2
      cases h
      rw [List.length_cons, List.length_cons, toKs_len e2]
    · cases h
theorem cb_len : CallR X (.builtin "len") (qB X.w X.K G bLen) := by
  rintro pins s σ H vs us Q I r ⟨vw, xs, rfl, ok, rs, q⟩
  unfold bLen at q
  split at q
  · rename_i z
    obtain ⟨v, _, rfl, rv, rfl⟩ := rs
    have rv : RelP X.w X.K G vw.H vw.Z (.str z) v := rv
    rw [RelP] at rv
    subst rv
    split at q
    · rename_i hl
      exact call_len pins s σ vw.H _ us Q I r ⟨.str z, z.length, rfl, ⟨hl, rfl⟩, q vw .rfl' ok rfl _ vvInt⟩
    · exact q.elim
  · rename_i z _
    obtain ⟨v, _, rfl, rv, rfl⟩ := rs
    split at q
    · rename_i b ys e
      obtain ⟨p, ws, rfl, hl, rw_, h⟩ := seqOf_both ok rv e
      refine call_len pins s σ vw.H _ us Q I r ⟨.ref p, ys.length, rfl, ?_, q vw .rfl' ok rfl _ vvInt⟩
      rw [rw_.len]
      exact h.elim (fun h => .inl ⟨ws, h, rfl⟩) (fun h => .inr ⟨ws, h, rfl⟩)
    · split at q
      · rename_i nk ks us' e
        obtain ⟨p, rfl, h⟩ := dctOf_rel ok rv e
        obtain ⟨u, rfl, ru⟩ := vals1 r
        cases ru
        cases nk with
        | false =>
          obtain ⟨kvs, h1, rfl, h3⟩ := h
          refine d_len I h1 fun t s' I' => ⟨.int kvs.length, vw.H, I', ⟨t, rfl⟩, ?_⟩
          have := q vw .rfl' ok rfl (.int kvs.length) (by rw [List.length_map]; exact vvInt)
          exact this
        | true =>
          obtain ⟨ys, h1, h2, h3, h4, h5⟩ := h
          obtain ⟨g1, g2, zs, g3, g4⟩ := dn_at I h1 h2 h3 h4
          have e1 : zs.length = ys.length := (Paired.length g3).symm
          refine call_len_dictH g1 g4 (by rw [e1]; rw [sizeLine_eq] at g2; omega) ?_
          refine ⟨.int ks.length, vw.H, I.tok _, ⟨s.toks + 1, ?_⟩, q vw .rfl' ok rfl _ vvInt⟩
          rw [e1, ← toKs_len h2, List.length_map]
      · exact q.elim
  · exact q.elim
def bInt : MF := fun xs st => match xs with
  | [.p (.int i)] => .ok (.p (.int i)) st
  | [.p (.bl b)] => .ok (.p (.int (if b then 1 else 0))) st
  | _ => .no
theorem cb_int : CallR X (.type "int") (qB X.w X.K G bInt) := by
  rintro pins s σ H vs us Q I r ⟨vw, xs, rfl, ok, rs, q⟩
  unfold bInt at q
  split at q
  · obtain ⟨v, _, rfl, rv, rfl⟩ := rs
    rw [RelVV.int rv] at r
    exact call_int1 pins s σ vw.H _ us Q I r (.inl ⟨_, rfl, q vw .rfl' ok rfl _ vvInt⟩)
  · obtain ⟨v, _, rfl, rv, rfl⟩ := rs
    rw [RelVV.bl rv] at r
    exact call_int1 pins s σ vw.H _ us Q I r (.inr ⟨_, rfl, q vw .rfl' ok rfl _ vvInt⟩)
  · exact q.elim
def bTuple : MF := fun xs st => match xs with
  | [z] => (match seqOf st z with
    | some (_, ys) => .ok (.p (.tup ys)) st
    | none => .no)
  | _ => .no
theorem cb_tuple : CallR X (.type "tuple") (qB X.w X.K G bTuple) := by
  rintro pins s σ H vs us Q I r ⟨vw, xs, rfl, ok, rs, q⟩
  unfold bTuple at q
  split at q
  · obtain ⟨v, _, rfl, rv, rfl⟩ := rs
    split at q
    · rename_i b ys e
      obtain ⟨p, ws, rfl, hl, rw_, h⟩ := seqOf_rel ok rv e
      refine call_tuple_of pins s σ vw.H _ us Q I r ⟨p, ws, rfl, ?_⟩
      cases b with
      | true =>
        rw [if_pos rfl] at h
        refine .inl ⟨h, fun l hn => ?_⟩
        obtain ⟨vw', eh, l', o, es, r'⟩ := mkTup ok hn hl rw_
        rw [← eh]
        exact q vw' l' o es _ r'
      | false =>
        rw [if_neg Bool.false_ne_true] at h
        refine .inr ⟨h, q vw .rfl' ok rfl _ ?_⟩
        exact (relTup.mpr ⟨p, ws, rfl, h, hl, rw_⟩ : RelP X.w X.K G vw.H vw.Z (.tup ys) (.ref p))
    · exact q.elim
  · exact q.elim
def bList : MF := fun xs st => match xs with
  | [z] => (match seqOf st z with
    | some (_, ys) => .ok (.p (.lst ys)) st
    | none => (match dctOf st z with
      | some (true, ks, _) => .ok (.p (.lst ks)) st
      | some (false, ks, _) => .ok (.p (.lst ks)) st
      | none => .no))
  | _ => .no
theorem rel_kP {w : World} {K : PySem.W.Frag} {H : Hp} {Z : Addr → Prop} : ∀ {kvs : List (Key × V)}, RelPs w K G H Z (kvs.map fun kv => kP kv.1) (kvs.map fun kv => kV kv.1)
  | [] => RelPs.nil
  | (k, v) :: kvs => by
    refine RelPs.cons ?_ rel_kP
    cases k with
    | inl i => show RelP _ _ _ _ _ (.int i) (.int i); rw [RelP]
    | inr i => show RelP _ _ _ _ _ (.str i) (.str i); rw [RelP]
theorem cb_list (hc : X.calm = true) : CallR X (.type "list") (qB X.w X.K G bList) := by
  rintro pins s σ H vs us Q I r ⟨vw, xs, rfl, ok, rs, q⟩
  unfold bList at q
  split at q
  · obtain ⟨v, _, rfl, rv, rfl⟩ := rs
    split at q
    · rename_i b ys e
      obtain ⟨p, ws, rfl, hl, rw_, h⟩ := seqOf_both ok rv e
      refine call_list_of pins s σ vw.H _ us Q I r ⟨p, ws, rfl, h, fun l hn => ?_⟩
      obtain ⟨vw', eh, l', o, es, r'⟩ := mkLst ok hn hl rw_
      rw [← eh]
      exact q vw' l' o es _ r'
    · split at q
      · rename_i ks us' e
        obtain ⟨p, rfl, ys, h1, h2, h3, h4, h5⟩ := dctOf_rel ok rv e
        obtain ⟨u, rfl, ru⟩ := vals1 r
        cases ru
        obtain ⟨⟨z1, z2, o, es, ep, ho, hx, hdt, hp, hn⟩, _⟩ := h1.ok I.hok
        have hlen : ys.length = es.size := by rw [Paired.length hp]; simp
        refine PySem.W.kdl_call (kdl_raw z1 hx hdt) (I.ok.hd hc) ho (by rw [← hlen]; exact z2) fun h' tk acc' c' hkeep hS hacc => ?_
        have hl2 : (ys.map fun x => V.ref x.2.1).length ≤ sizeLine := by rw [List.length_map]; exact z2
        obtain ⟨vw', eh, l', o', es', r'⟩ := mkLst (p := s.heap.objs.size) ok (I.hok.fresh (Nat.le_refl _)) hl2 h4
        refine ⟨.ref s.heap.objs.size, vw'.H, ?_, rfl, q vw' l' o' es' _ r'⟩
        rw [eh]
        refine I.laid hkeep (Nat.le_refl _) (show ObjOk X.prog X.w _ _ _ (.lst (ys.map fun x => V.ref x.2.1)) from ⟨hl2, acc'.toList, c', ?_, ?_⟩)
        · refine vals_of_at (by rw [List.length_map, hlen, ← hacc.1]; simp) fun j x w h1 h2 => ?_
          obtain ⟨en, hen, ew⟩ := hacc.2 j w (by rw [← Array.getElem?_toList]; exact h2)
          rw [List.getElem?_map] at h1
          obtain ⟨y, hy, rfl⟩ := Option.map_eq_some_iff.mp h1
          obtain ⟨en2, he2, v2, _, e3⟩ := paired_get hp hy
          rw [Array.getElem?_toList, hen] at he2
          cases he2
          rw [ew, e3]
          rfl
        · rw [Array.toArray_toList]; exact hS
      · rename_i ks us' e
        obtain ⟨p, rfl, kvs, h1, rfl, h3⟩ := dctOf_rel ok rv e
        have hl : (kvs.map fun kv => kV kv.1).length ≤ sizeLine := by
          obtain ⟨z, _⟩ := dk_rd I.hok h1
          rw [List.length_map]; exact z
        refine call_listD hc pins s σ vw.H _ us Q I r ⟨p, kvs, rfl, h1, fun l hn => ?_⟩
        obtain ⟨vw', eh, l', o, es, r'⟩ := mkLst ok hn hl rel_kP
        rw [← eh]
        exact q vw' l' o es _ r'
      · exact q.elim
  · exact q.elim
end
end Ev
end S_Ev14
section S_Ev15
namespace Ev
open PySem PySem.Spec PyProof.Rows L2 PySem.W
/-! ### sorted -/
mutual
/-- nested tuples of ints and texts, of one shape -/
def sameSh : PV → PV → Bool
  | .int _, .int _ => true
  | .str _, .str _ => true
  | .tup xs, .tup ys => sameShs xs ys
  | _, _ => false
def sameShs : List PV → List PV → Bool
  | [], [] => true
  | x :: xs, y :: ys => sameSh x y && sameShs xs ys
  | _, _ => false
end
def encD (x : PV) : PyData := x.toD.getD .none
mutual
theorem sameSh_d : ∀ (x y : PV), sameSh x y = true → ∃ d d', x.toD = some d ∧ y.toD = some d' ∧ alike d d' = true
  | .int i, y, h => by cases y <;> simp [sameSh] at h; exact ⟨.int i, .int _, by rw [PV.toD], by rw [PV.toD], rfl⟩
  | .str i, y, h => by cases y <;> simp [sameSh] at h; exact ⟨.str i, .str _, by rw [PV.toD], by rw [PV.toD], rfl⟩
  | .tup xs, y, h => by
    cases y <;> simp [sameSh] at h
    obtain ⟨ds, ds', h1, h2, h3⟩ := sameShs_d xs _ h
    exact ⟨.tuple ds, .tuple ds', by rw [PV.toD, h1]; rfl, by rw [PV.toD, h2]; rfl, by rw [alike]; exact h3⟩
  | .non, y, h => by cases y <;> simp [sameSh] at h
  | .bl _, y, h => by cases y <;> simp [sameSh] at h
  | .lst _, y, h => by cases y <;> simp [sameSh] at h
  | .dct _ _ _, y, h => by cases y <;> simp [sameSh] at h
  | .ins _ _ _, y, h => by cases y <;> simp [sameSh] at h
  | .ty _, y, h => by cases y <;> simp [sameSh] at h
  | .glb _, y, h => by cases y <;> simp [sameSh] at h
  | .lsf _, y, h => by cases y <;> simp [sameSh] at h
theorem sameShs_d : ∀ (x y : List PV), sameShs x y = true → ∃ d d', PV.toDs x = some d ∧ PV.toDs y = some d' ∧ alikeAll d d' = true
  | [], y, h => by
    cases y <;> simp [sameShs] at h
    exact ⟨[], [], by rw [PV.toDs], by rw [PV.toDs], by rw [alikeAll]⟩
  | x :: xs, y, h => by
    cases y with
    | nil => simp [sameShs] at h
    | cons y ys =>
      rw [sameShs, Bool.and_eq_true] at h
      obtain ⟨d, d', h1, h2, h3⟩ := sameSh_d x y h.1
      obtain ⟨e, e', g1, g2, g3⟩ := sameShs_d xs ys h.2
      exact ⟨d :: e, d' :: e', by rw [PV.toDs, h1, g1], by rw [PV.toDs, h2, g2], by rw [alikeAll, h3, g3]; rfl⟩
end
mutual
theorem sameSh_tr : ∀ (x y z : PV), sameSh x y = true → sameSh x z = true → sameSh y z = true
  | .int i, y, z, h, h' => by cases y <;> simp [sameSh] at h; cases z <;> simp [sameSh] at h'; rfl
  | .str i, y, z, h, h' => by cases y <;> simp [sameSh] at h; cases z <;> simp [sameSh] at h'; rfl
  | .tup xs, y, z, h, h' => by
    cases y <;> simp [sameSh] at h
    cases z <;> simp [sameSh] at h'
    rw [sameSh]
    exact sameShs_tr xs _ _ h h'
  | .non, y, z, h, _ => by cases y <;> simp [sameSh] at h
  | .bl _, y, z, h, _ => by cases y <;> simp [sameSh] at h
  | .lst _, y, z, h, _ => by cases y <;> simp [sameSh] at h
  | .dct _ _ _, y, z, h, _ => by cases y <;> simp [sameSh] at h
  | .ins _ _ _, y, z, h, _ => by cases y <;> simp [sameSh] at h
  | .ty _, y, z, h, _ => by cases y <;> simp [sameSh] at h
  | .glb _, y, z, h, _ => by cases y <;> simp [sameSh] at h
  | .lsf _, y, z, h, _ => by cases y <;> simp [sameSh] at h
theorem sameShs_tr : ∀ (x y z : List PV), sameShs x y = true → sameShs x z = true → sameShs y z = true
  | [], y, z, h, h' => by cases y <;> simp [sameShs] at h; cases z <;> simp [sameShs] at h'; rfl
  | x :: xs, y, z, h, h' => by
    cases y with
    | nil => simp [sameShs] at h
    | cons y ys =>
      cases z with
      | nil => simp [sameShs] at h'
      | cons z zs =>
        rw [sameShs, Bool.and_eq_true] at h h' ⊢
        exact ⟨sameSh_tr x y z h.1 h'.1, sameShs_tr xs ys zs h.2 h'.2⟩
end
mutual
theorem toks_inj : ∀ (x y : PV) (l m : List (Int ⊕ List Nat)), sameSh x y = true → keyToks (encD x) ++ l = keyToks (encD y) ++ m → x = y ∧ l = m
  | .int i, y, l, m, h, e => by
    cases y <;> simp [sameSh] at h
    simp [encD, PV.toD, keyToks] at e
    exact ⟨by rw [e.1], e.2⟩
  | .str i, y, l, m, h, e => by
    cases y <;> simp [sameSh] at h
    simp [encD, PV.toD, keyToks] at e
    exact ⟨congrArg PV.str (PySem.W.str_of_cps (congrArg Array.toList (by simpa using e.1))), e.2⟩
  | .tup xs, y, l, m, h, e => by
    cases y <;> simp [sameSh] at h
    rename_i ys
    obtain ⟨d, d', h1, h2, _⟩ := sameShs_d xs ys h
    have e' : keyToksAll ((PV.toDs xs).getD []) ++ l = keyToksAll ((PV.toDs ys).getD []) ++ m := by
      simpa [encD, PV.toD, h1, h2, keyToks] using e
    obtain ⟨q, r⟩ := toks_injs xs ys l m h e'
    exact ⟨by rw [q], r⟩
  | .non, y, l, m, h, _ => by cases y <;> simp [sameSh] at h
  | .bl _, y, l, m, h, _ => by cases y <;> simp [sameSh] at h
  | .lst _, y, l, m, h, _ => by cases y <;> simp [sameSh] at h
  | .dct _ _ _, y, l, m, h, _ => by cases y <;> simp [sameSh] at h
  | .ins _ _ _, y, l, m, h, _ => by cases y <;> simp [sameSh] at h
  | .ty _, y, l, m, h, _ => by cases y <;> simp [sameSh] at h
  | .glb _, y, l, m, h, _ => by cases y <;> simp [sameSh] at h
  | .lsf _, y, l, m, h, _ => by cases y <;> simp [sameSh] at h
theorem toks_injs : ∀ (x y : List PV) (l m : List (Int ⊕ List Nat)), sameShs x y = true → keyToksAll ((PV.toDs x).getD []) ++ l = keyToksAll ((PV.toDs y).getD []) ++ m → x = y ∧ l = m
  | [], y, l, m, h, e => by
    cases y <;> simp [sameShs] at h
    exact ⟨rfl, by simpa using e⟩
  | x :: xs, y, l, m, h, e => by
    cases y with
    | nil => simp [sameShs] at h
    | cons y ys =>
      rw [sameShs, Bool.and_eq_true] at h
      obtain ⟨d, d', h1, h2, _⟩ := sameSh_d x y h.1
      obtain ⟨ds, ds', g1, g2, _⟩ := sameShs_d xs ys h.2
      have e' : keyToks (encD x) ++ (keyToksAll ((PV.toDs xs).getD []) ++ l) = keyToks (encD y) ++ (keyToksAll ((PV.toDs ys).getD []) ++ m) := by
        simpa [PV.toDs, h1, h2, g1, g2, keyToksAll, encD] using e
      obtain ⟨q, r⟩ := toks_inj x y _ _ h.1 e'
      obtain ⟨q2, r2⟩ := toks_injs xs ys l m h.2 r
      exact ⟨by rw [q, q2], r2⟩
end
def leP (x y : PV) : Bool := PySem.W.dataLe false encD x y
def insP (x : PV) : List PV → List PV
  | [] => [x]
  | y :: ys => if leP x y = true then x :: y :: ys else y :: insP x ys
def isort : List PV → List PV
  | [] => []
  | x :: xs => insP x (isort xs)
theorem insP_perm (x : PV) : ∀ ys : List PV, (insP x ys).Perm (x :: ys)
  | [] => .refl _
  | y :: ys => by
    unfold insP
    split
    · exact .refl _
    · exact ((insP_perm x ys).cons y).trans (.swap x y ys)
theorem isort_perm : ∀ ys : List PV, (isort ys).Perm ys
  | [] => .refl _
  | x :: xs => (insP_perm x _).trans ((isort_perm xs).cons x)
theorem leP_total : TotalLe leP := sortLe_total (listOrd itemOrd) false fun b => keyToks (encD b)
theorem insP_sorted (x : PV) : ∀ ys : List PV, ys.Pairwise (fun a b => leP a b = true) → (insP x ys).Pairwise (fun a b => leP a b = true)
  | [], _ => List.pairwise_singleton _ _
  | y :: ys, h => by
    rw [List.pairwise_cons] at h
    unfold insP
    split
    · rename_i hx
      rw [List.pairwise_cons, List.pairwise_cons]
      refine ⟨fun a ha => ?_, h⟩
      rcases List.mem_cons.mp ha with rfl | ha
      · exact hx
      · exact leP_total.trans _ _ _ hx (h.1 a ha)
    · rename_i hx
      rw [List.pairwise_cons]
      refine ⟨fun a ha => ?_, insP_sorted x ys h.2⟩
      rcases List.mem_cons.mp ((insP_perm x ys).mem_iff.mp ha) with rfl | ha
      · have := leP_total.total a y
        simp only [Bool.not_eq_true] at hx
        rw [hx] at this
        simpa using this
      · exact h.1 a ha
theorem isort_sorted : ∀ ys : List PV, (isort ys).Pairwise (fun a b => leP a b = true)
  | [] => .nil
  | x :: xs => insP_sorted x _ (isort_sorted xs)
/-- all of one shape -/
def oneSh : List PV → Bool
  | [] => true
  | x :: xs => (x :: xs).all (sameSh x)
theorem oneSh_all {ys : List PV} (h : oneSh ys = true) : ∀ a ∈ ys, ∀ b ∈ ys, sameSh a b = true := by
  cases ys with
  | nil => intro a ha; cases ha
  | cons x xs =>
    intro a ha b hb
    have h := List.all_eq_true.mp h
    exact sameSh_tr x a b (h a ha) (h b hb)
theorem leP_anti {a b : PV} (h : sameSh a b = true) (h1 : leP a b = true) (h2 : leP b a = true) : a = b := by
  have e : keyToks (encD a) = keyToks (encD b) := by
    refine lex_total (O := itemOrd) _ _ ?_ ?_
    · simpa [leP, PySem.W.dataLe, sortLe] using h2
    · simpa [leP, PySem.W.dataLe, sortLe] using h1
  exact (toks_inj a b [] [] h (by rw [e])).1
theorem isort_merge {ys : List PV} (h : oneSh ys = true) : ys.mergeSort (PySem.W.dataLe false encD) = isort ys := by
  have p1 : (ys.mergeSort leP).Perm ys := List.mergeSort_perm _ _
  have p2 := isort_perm ys
  have s1 : (ys.mergeSort leP).Pairwise (fun a b => leP a b = true) := List.pairwise_mergeSort (fun a b c => leP_total.trans a b c) (fun a b => by rw [Bool.or_eq_true]; exact leP_total.total a b) ys
  have al := oneSh_all h
  refine List.Perm.eq_of_pairwise (le := fun a b => leP a b = true) (fun a b ha hb h1 h2 => ?_) s1 (isort_sorted ys) (p1.trans p2.symm)
  exact leP_anti (al a (p1.mem_iff.mp ha) b (p2.mem_iff.mp hb)) h1 h2
end Ev
end S_Ev15
section S_Ev16
namespace Ev
open PySem PySem.Spec PyProof.Rows L2 PySem.W
theorem sorted_seq {β : Type} {bs : List β} {enc : β → PyData} {R : Value → β → Prop} {prog : Program} {w : World} {A : Around} {E : Value → Shared → Prop} {s : Shared} {vs : List Value} {l : Addr} {T : String} {o : Obj} {n : Nat} {Q : Value → Shared → Prop} (hT : T = "list" ∨ T = "tuple")
    (ho : s.heap.get? l = some o) (hc : o.cls = .type T) (hd : o.data = .seq vs.toArray n) (e : EachIs R vs bs) (er : EachIs (fun v b => ∃ as, Reads s.heap v (enc b) as) vs bs) (hal : PySem.W.AllAlike (bs.map enc)) (hk : PySem.W.Sortable (bs.map enc)) (hL : bs.length ≤ sizeLine)
    (hu : ∀ b, b ∈ bs → A.units + 2 + (enc b).depth < cLine)
    (h : ∀ (h1 h' : Heap) (out : List Value) (e' : Nat), (∀ b o, s.heap.get? b = some o → h1.get? b = some o) → (∀ b o, h1.get? b = some o → h'.get? b = some o) → h'.get? h1.objs.size = some (seqObj "list" (List.toArray out) e') → out.length = bs.length → EachIs R out (bs.mergeSort (dataLe false enc)) → Q (.ref h1.objs.size) { s with heap := h' }) :
    wpAny (model prog w) A (call (.builtin "sorted") [.ref l]) Q E s := by
  have hvl : vs.length = bs.length := e.length
  refine PySem.Calls.call_function_entry kind_sorted plain_sorted entry_sorted (args_sorted1 _) ?_
  unfold Builtin.«sorted»
  refine wpAny_bind (m := checkCount "sorted" 1 1 _) (wpAny_pure ?_)
  refine wpAny_bind (wpAny_collect_seq (A := A.in1) l hT ho hc hd (fun h1 k1 => ?_) (by rw [List.size_toArray, hvl]; exact hL))
  have hvl2 : vs.length ≤ sizeLine := by rw [hvl]; exact hL
  rw [List.toList_toArray]
  refine wpAny_bind (wpAny_newList ?_ hvl2)
  have hoL : (h1.push (seqObj "list" vs.toArray 0)).get? h1.objs.size = some (seqObj "list" vs.toArray 0) := Heap.get?_push_size _ rfl
  have keep : ∀ b o, s.heap.get? b = some o → b ≠ h1.objs.size ∧ (h1.push (seqObj "list" vs.toArray 0)).get? b = some o := fun b o q => ⟨Nat.ne_of_lt (Heap.lt_size (k1 b o q)), Heap.get?_push_of_some _ (k1 b o q)⟩
  show wpAny _ _ _ _ _ { s with heap := h1.push (seqObj "list" vs.toArray 0) }
  have er' : EachIs (fun v b => ∃ as, Reads (sortingHeap (h1.push (seqObj "list" vs.toArray 0)) h1.objs.size vs) v (enc b) as) vs bs :=
    er.mono fun _ _ ⟨as, r⟩ => ⟨as, PyProof.Rows.Reads.keeps (fun b o q => sortingHeap_old (keep b o q).1 (keep b o q).2) r⟩
  have SS := SortsAt.data (prog := prog) (w := w) (A := A.in1.in1) (s := { s with heap := sortingHeap (h1.push (seqObj "list" vs.toArray 0)) h1.objs.size vs }) (each_map (R := fun v d => ∃ as, Reads (sortingHeap (h1.push (seqObj "list" vs.toArray 0)) h1.objs.size vs) v d as) enc er') hal hk (bound_map hu)
  obtain ⟨e', he'⟩ := sortedHeap_at (out := (sortVals (dataKind (sortingHeap (h1.push (seqObj "list" vs.toArray 0)) h1.objs.size vs) (bs.map enc)) false vs vs).toArray) hoL
  refine wpAny_bind (wpAny_holding (wpAny_call_entry slot_list_sort ⟨_, hoL, rfl⟩ entry_list_sort (list_sort_vals (s := { s with heap := h1.push (seqObj "list" vs.toArray 0) }) hoL SS hvl2 ⟨_, rfl, ?_⟩) (args_list_sort _)))
  refine wpAny_pure ⟨_, rfl, ?_⟩
  refine h h1 _ _ e' k1 (fun b o q => ?_) he' ?_ (sortVals_data false e er' hal)
  · have q2 : b ≠ h1.objs.size ∧ (h1.push (seqObj "list" vs.toArray 0)).get? b = some o := ⟨Nat.ne_of_lt (Heap.lt_size q), Heap.get?_push_of_some _ q⟩
    rw [sortedHeap_old q2.1 (Heap.lt_size q2.2)]
    exact q2.2
  · rw [sortVals_length false rfl]
    exact hvl
/-- a value among values, with what it stands for -/
theorem each_rel {X : Cx} {G : Nat → Addr} {H : Hp} {Z : Addr → Prop} : ∀ {xs : List PV} {ws : List V} {us : List Value}, RelPs X.w X.K G H Z xs ws → Vals ws us → EachIs (fun u x => ∃ v, RelV v u ∧ RelP X.w X.K G H Z x v) us xs
  | [], ws, us, r, v => by rw [RelPs] at r; subst r; cases v; exact .nil
  | x :: xs, ws, us, r, v => by
    rw [RelPs] at r
    obtain ⟨v0, rr, rfl, h1, h2⟩ := r
    cases v with
    | cons a b => exact .cons ⟨v0, a, h1⟩ (each_rel h2 b)
theorem each_back {X : Cx} {G : Nat → Addr} {H : Hp} {Z : Addr → Prop} : ∀ {xs : List PV} {us : List Value}, EachIs (fun u x => ∃ v, RelV v u ∧ RelP X.w X.K G H Z x v) us xs → ∃ ws, RelPs X.w X.K G H Z xs ws ∧ Vals ws us
  | _, _, .nil => ⟨[], RelPs.nil, .nil⟩
  | _, _, .cons ⟨v, a, b⟩ t => by
    obtain ⟨ws, c, d⟩ := each_back t
    exact ⟨v :: ws, RelPs.cons b c, .cons a d⟩
theorem each_reads {X : Cx} {G : Nat → Addr} {pins : List (Addr × Obj)} {σ : SSt} {H : Hp} {s : Shared} {Z : Addr → Prop} (I : Inv X pins σ H s) : ∀ {xs : List PV} {us : List Value}, (∀ x ∈ xs, x.toD ≠ none) → EachIs (fun u x => ∃ v, RelV v u ∧ RelP X.w X.K G H Z x v) us xs → EachIs (fun u x => ∃ as, Reads s.heap u (encD x) as) us xs
  | _, _, _, .nil => .nil
  | x :: xs, u :: us, hd, .cons ⟨v, a, b⟩ t => by
    refine .cons ?_ (each_reads I (fun y hy => hd y (List.mem_cons_of_mem _ hy)) t)
    cases e : x.toD with
    | none => exact absurd e (hd x List.mem_cons_self)
    | some d =>
      unfold encD
      rw [e]
      exact Dp.reads I d v u (RelP.dp x v d b e) a
/-! a faster order: place by place -/
def ltS (a b : Str) : Bool := strKind.blt a.cps.toList b.cps.toList
mutual
def cmpF : PV → PV → Ordering
  | .int a, y => match y with
    | .int b => bif decide (a < b) then .lt else bif decide (b < a) then .gt else .eq
    | _ => .eq
  | .str a, y => match y with
    | .str b => bif ltS a b then .lt else bif ltS b a then .gt else .eq
    | _ => .eq
  | .tup a, y => match y with
    | .tup b => cmpFs a b
    | _ => .eq
  | _, _ => .eq
def cmpFs : List PV → List PV → Ordering
  | [], _ => .eq
  | x :: xs, y => match y with
    | [] => .eq
    | z :: zs => match cmpF x z with
      | .lt => .lt
      | .gt => .gt
      | .eq => cmpFs xs zs
end
abbrev lxI := PyProof.Rows.lexLt PyProof.Rows.itemOrd
def ordB (o : Ordering) (b : Bool) : Bool := match o with
  | .lt => true
  | .gt => false
  | .eq => b
theorem lx_int (a b : Int) (l m : List (Int ⊕ List Nat)) : lxI (.inl a :: l) (.inl b :: m) = ordB (bif decide (a < b) then .lt else bif decide (b < a) then .gt else .eq) (lxI l m) := by
  cases h : decide (a < b) with
  | true => exact lex_true.mpr (.inl h)
  | false =>
    cases h2 : decide (b < a) with
    | true => exact lex_false.mpr ⟨h, .inl h2⟩
    | false =>
      have e : a = b := by
        have h := of_decide_eq_false h
        have h2 := of_decide_eq_false h2
        omega
      subst e
      exact lex_self (O := PyProof.Rows.itemOrd) _ l m
theorem lx_str (a b : Str) (l m : List (Int ⊕ List Nat)) : lxI (.inr a.cps.toList :: l) (.inr b.cps.toList :: m) = ordB (bif ltS a b then .lt else bif ltS b a then .gt else .eq) (lxI l m) := by
  cases h : ltS a b with
  | true => exact lex_true.mpr (.inl h)
  | false =>
    cases h2 : ltS b a with
    | true => exact lex_false.mpr ⟨h, .inl h2⟩
    | false =>
      have e : a.cps.toList = b.cps.toList := strKind.total _ _ h h2
      rw [e]
      exact lex_self (O := PyProof.Rows.itemOrd) _ l m
mutual
theorem cmpF_lx : ∀ (x y : PV) (l m : List (Int ⊕ List Nat)), sameSh x y = true → lxI (keyToks (encD x) ++ l) (keyToks (encD y) ++ m) = ordB (cmpF x y) (lxI l m)
  | .int i, y, l, m, h => by
    cases y <;> simp [sameSh] at h
    rename_i j
    rw [cmpF, ← lx_int]
    simp [encD, PV.toD, keyToks]
  | .str i, y, l, m, h => by
    cases y <;> simp [sameSh] at h
    rename_i j
    rw [cmpF, ← lx_str]
    simp [encD, PV.toD, keyToks]
  | .tup xs, y, l, m, h => by
    cases y <;> simp [sameSh] at h
    rename_i ys
    obtain ⟨d, d', h1, h2, _⟩ := sameShs_d xs ys h
    have := cmpFs_lx xs ys l m h
    rw [cmpF]
    simpa [encD, PV.toD, h1, h2, keyToks] using this
  | .non, y, l, m, h => by cases y <;> simp [sameSh] at h
  | .bl _, y, l, m, h => by cases y <;> simp [sameSh] at h
  | .lst _, y, l, m, h => by cases y <;> simp [sameSh] at h
  | .dct _ _ _, y, l, m, h => by cases y <;> simp [sameSh] at h
  | .ins _ _ _, y, l, m, h => by cases y <;> simp [sameSh] at h
  | .ty _, y, l, m, h => by cases y <;> simp [sameSh] at h
  | .glb _, y, l, m, h => by cases y <;> simp [sameSh] at h
  | .lsf _, y, l, m, h => by cases y <;> simp [sameSh] at h
theorem cmpFs_lx : ∀ (xs ys : List PV) (l m : List (Int ⊕ List Nat)), sameShs xs ys = true → lxI (keyToksAll ((PV.toDs xs).getD []) ++ l) (keyToksAll ((PV.toDs ys).getD []) ++ m) = ordB (cmpFs xs ys) (lxI l m)
  | [], y, l, m, h => by
    cases y <;> simp [sameShs] at h
    rw [cmpFs]
    simp only [PV.toDs, Option.getD_some, keyToksAll, List.cons_append, List.nil_append]
    exact lex_self (O := PyProof.Rows.itemOrd) _ l m
  | x :: xs, y, l, m, h => by
    cases y with
    | nil => simp [sameShs] at h
    | cons y ys =>
      rw [sameShs, Bool.and_eq_true] at h
      obtain ⟨d, d', h1, h2, _⟩ := sameSh_d x y h.1
      obtain ⟨ds, ds', g1, g2, _⟩ := sameShs_d xs ys h.2
      have e1 := cmpF_lx x y (keyToksAll ((PV.toDs xs).getD []) ++ l) (keyToksAll ((PV.toDs ys).getD []) ++ m) h.1
      have e2 := cmpFs_lx xs ys l m h.2
      have e3 : lxI (keyToksAll ((PV.toDs (x :: xs)).getD []) ++ l) (keyToksAll ((PV.toDs (y :: ys)).getD []) ++ m) = lxI (keyToks (encD x) ++ (keyToksAll ((PV.toDs xs).getD []) ++ l)) (keyToks (encD y) ++ (keyToksAll ((PV.toDs ys).getD []) ++ m)) := by
        simp only [PV.toDs, h1, h2, g1, g2, keyToksAll, encD, Option.getD_some, List.cons_append, List.append_assoc]
        exact lex_self (O := PyProof.Rows.itemOrd) _ _ _
      rw [e3, e1, e2, cmpFs]
      cases cmpF x y <;> rfl
end
def leF (x y : PV) : Bool := match cmpF y x with
  | .lt => false
  | _ => true
theorem leF_eq {x y : PV} (h : sameSh y x = true) : leF x y = leP x y := by
  have e := cmpF_lx y x [] [] h
  rw [List.append_nil, List.append_nil] at e
  show leF x y = !lxI (keyToks (encD y)) (keyToks (encD x))
  rw [e]
  unfold leF
  cases cmpF y x <;> rfl
def insF (x : PV) : List PV → List PV
  | [] => [x]
  | y :: ys => bif leF x y then x :: y :: ys else y :: insF x ys
def isortF : List PV → List PV
  | [] => []
  | x :: xs => insF x (isortF xs)
theorem insF_eq {x : PV} : ∀ {ys : List PV}, (∀ y ∈ ys, sameSh y x = true) → insF x ys = insP x ys
  | [], _ => rfl
  | y :: ys, h => by
    rw [insF, insP, leF_eq (h y List.mem_cons_self), insF_eq (fun z hz => h z (List.mem_cons_of_mem _ hz))]
    cases leP x y <;> rfl
theorem isortF_eq' : ∀ {ys : List PV}, (∀ a ∈ ys, ∀ b ∈ ys, sameSh a b = true) → isortF ys = isort ys
  | [], _ => rfl
  | x :: xs, h => by
    rw [isortF, isort, isortF_eq' (fun a ha b hb => h a (List.mem_cons_of_mem _ ha) b (List.mem_cons_of_mem _ hb))]
    exact insF_eq fun y hy => h y (List.mem_cons_of_mem _ ((isort_perm xs).mem_iff.mp hy)) x List.mem_cons_self
theorem isortF_eq {ys : List PV} (h : oneSh ys = true) : isortF ys = isort ys := isortF_eq' (oneSh_all h)
/-- what sorts -/
def headOk : List PV → Bool
  | .tup [] :: _ => false
  | _ => true
def pSort (ys : List PV) : Option (List PV) := if oneSh ys = true ∧ (ys.all fun x => decide ((encD x).depth ≤ 8)) = true ∧ headOk ys = true then some (isortF ys) else none
theorem sort_ok {ys : List PV} (h : oneSh ys = true) (h3 : headOk ys = true) : PySem.W.AllAlike (ys.map encD) ∧ PySem.W.Sortable (ys.map encD) ∧ ∀ x ∈ ys, x.toD ≠ none := by
  have al := oneSh_all h
  refine ⟨fun d hd d' hd' => ?_, ?_, fun x hx e => ?_⟩
  · obtain ⟨x, hx, rfl⟩ := List.mem_map.mp hd
    obtain ⟨y, hy, rfl⟩ := List.mem_map.mp hd'
    obtain ⟨d, d', e1, e2, e3⟩ := sameSh_d x y (al x hx y hy)
    unfold encD
    rw [e1, e2]
    exact e3
  · cases ys with
    | nil => exact .inl fun d hd => by cases hd
    | cons y ys =>
      have hy : ∀ x ∈ y :: ys, sameSh y x = true := fun x hx => al y List.mem_cons_self x hx
      cases y with
      | tup ts =>
        cases ts with
        | nil => cases h3
        | cons t ts =>
          refine .inl fun d hd => ?_
          obtain ⟨x, hx, rfl⟩ := List.mem_map.mp hd
          have := hy x hx
          cases x <;> simp [sameSh] at this
          rename_i us
          cases us with
          | nil => simp [sameShs] at this
          | cons u us =>
            obtain ⟨ds, ds', h1, h2, _⟩ := sameShs_d _ _ this
            unfold encD
            rw [PV.toD, h2]
            rw [PV.toDs] at h2
            split at h2
            · cases h2
              exact ⟨_, _, rfl⟩
            · cases h2
      | int i =>
        refine .inr fun d hd => ?_
        obtain ⟨x, hx, rfl⟩ := List.mem_map.mp hd
        have := hy x hx
        cases x <;> simp [sameSh] at this
        exact ⟨fun z => (by simp [encD, PV.toD] at z), fun xs z => (by simp [encD, PV.toD] at z)⟩
      | str i =>
        refine .inr fun d hd => ?_
        obtain ⟨x, hx, rfl⟩ := List.mem_map.mp hd
        have := hy x hx
        cases x <;> simp [sameSh] at this
        exact ⟨fun z => (by simp [encD, PV.toD] at z), fun xs z => (by simp [encD, PV.toD] at z)⟩
      | _ => have := hy _ List.mem_cons_self; simp [sameSh] at this
  · obtain ⟨d, _, e1, _⟩ := sameSh_d x x (al x hx x hx)
    rw [e] at e1
    cases e1
def bSorted : MF := fun xs st => match xs with
  | [z] => (match seqOf st z with
    | some (_, ys) => (match pSort ys with
      | some zs => .ok (.p (.lst zs)) st
      | none => .no)
    | none => .no)
  | _ => .no
theorem cb_sorted {X : Cx} {G : Nat → Addr} (hu : X.A.units + 65 < cLine) : CallR X (.builtin "sorted") (qB X.w X.K G bSorted) := by
  rintro pins s σ H vs us Q I r ⟨vw, xs, rfl, ok, rs, q⟩
  unfold bSorted at q
  split at q
  · obtain ⟨v, _, rfl, rv, rfl⟩ := rs
    split at q
    · rename_i b ys e
      split at q
      · rename_i zs hz
        unfold pSort at hz
        split at hz
        · rename_i hc
          cases hz
          obtain ⟨h1, h2, h3⟩ := hc
          rw [isortF_eq h1] at q
          obtain ⟨al, so, td⟩ := sort_ok h1 h3
          obtain ⟨p, ws, rfl, hl, rw_, hh⟩ := seqOf_both ok rv e
          obtain ⟨u, rfl, ru⟩ := vals1 r
          cases ru
          obtain ⟨its, o, n, T, hT, ho, hcl, hdt, rvs⟩ : ∃ (its : List Value) (o : Obj) (n : Nat) (T : String), (T = "list" ∨ T = "tuple") ∧ s.heap.get? p = some o ∧ o.cls = .type T ∧ o.data = .seq its.toArray n ∧ Vals ws its := by
            rcases hh with hh | hh
            · obtain ⟨its, rvs, ⟨o, n, h1, h2, h3, h4⟩, _⟩ := I.list hh
              exact ⟨its, o, n, "list", .inl rfl, h1, h2, h4, rvs⟩
            · obtain ⟨its, rvs, ⟨o, h1, h2, n, h4⟩, _⟩ := I.tuple hh
              exact ⟨its, o, n, "tuple", .inr rfl, h1, h2, h4, rvs⟩
          have eR := each_rel rw_ rvs
          refine sorted_seq (enc := encD) hT ho hcl hdt eR (each_reads I td eR) al so (by rw [rw_.len]; exact hl) (fun x hx => ?_) fun h1' h' out e' k1 k2 hp ho' eo => ?_
          · have := of_decide_eq_true (List.all_eq_true.mp h2 x hx)
            omega
          · rw [isort_merge h1] at eo
            obtain ⟨ws', r1, r2⟩ := each_back eo
            have I1 : Inv X pins σ vw.H { s with heap := h1' } := I.kept (t' := s.toks) k1
            have hl' : ws'.length ≤ sizeLine := by
              rw [← r1.len, (isort_perm ys).length_eq, rw_.len]; exact hl
            obtain ⟨vw', eh, l', o', es, r'⟩ := mkLst (p := h1'.objs.size) ok (I1.hok.fresh (Nat.le_refl _)) hl' r1
            refine ⟨.ref h1'.objs.size, vw'.H, ?_, rfl, q vw' l' o' es _ r'⟩
            rw [eh]
            exact I1.laid (t' := s.toks) k2 (Nat.le_refl _) ⟨hl', out, e', r2, hp⟩
        · cases hz
      · exact q.elim
    · exact q.elim
  · exact q.elim
end Ev
end S_Ev16
section S_Ev17
namespace Ev
open PySem PySem.Spec PyProof.Rows L2 PySem.W
def intsOf : List PV → Option (List Int)
  | [] => some []
  | .int i :: xs => (intsOf xs).map fun r => i :: r
  | _ => none
def blsOf : List PV → Option (List Bool)
  | [] => some []
  | .bl i :: xs => (blsOf xs).map fun r => i :: r
  | _ => none
section
variable {w : World} {K : PySem.W.Frag} {G : Nat → Addr} {H : Hp} {Z : Addr → Prop}
theorem intsOf_rel : ∀ {xs : List PV} {vs : List V} {ns : List Int}, RelPs w K G H Z xs vs → intsOf xs = some ns → vs = ns.map V.int
  | [], vs, ns, r, h => by rw [RelPs] at r; cases h; exact r
  | x :: xs, vs, ns, r, h => by
    rw [RelPs] at r
    obtain ⟨v, rr, rfl, h1, h2⟩ := r
    cases x <;> try (cases h; done)
    rw [intsOf] at h
    obtain ⟨m, e, rfl⟩ := Option.map_eq_some_iff.mp h
    rw [RelP] at h1
    rw [h1, intsOf_rel h2 e]
    rfl
theorem blsOf_rel : ∀ {xs : List PV} {vs : List V} {ns : List Bool}, RelPs w K G H Z xs vs → blsOf xs = some ns → vs = ns.map V.bl
  | [], vs, ns, r, h => by rw [RelPs] at r; cases h; exact r
  | x :: xs, vs, ns, r, h => by
    rw [RelPs] at r
    obtain ⟨v, rr, rfl, h1, h2⟩ := r
    cases x <;> try (cases h; done)
    rw [blsOf] at h
    obtain ⟨m, e, rfl⟩ := Option.map_eq_some_iff.mp h
    rw [RelP] at h1
    rw [h1, blsOf_rel h2 e]
    rfl
end
section
variable {X : Cx} {G : Nat → Addr} {E : WE}
def bAll : MF := fun xs st => match xs with
  | [z] => (match seqOf st z with
    | some (true, ys) => (match blsOf ys with
      | some bs => .ok (.p (.bl (bs.all id))) st
      | none => .no)
    | _ => .no)
  | _ => .no
def bAny : MF := fun xs st => match xs with
  | [z] => (match seqOf st z with
    | some (true, ys) => (match blsOf ys with
      | some bs => .ok (.p (.bl (bs.any id))) st
      | none => .no)
    | _ => .no)
  | _ => .no
theorem cb_all (hc : X.calm = true) : CallR X (.builtin "all") (qB X.w X.K G bAll) := by
  rintro pins s σ H vs us Q I r ⟨vw, xs, rfl, ok, rs, q⟩
  unfold bAll at q
  split at q
  · obtain ⟨v, _, rfl, rv, rfl⟩ := rs
    split at q
    · rename_i ys e
      split at q
      · rename_i bs hb
        obtain ⟨p, ws, rfl, hl, rw_, h⟩ := seqOf_rel ok rv e
        rw [if_pos rfl] at h
        rw [blsOf_rel rw_ hb] at h
        exact cr_all hc pins s σ vw.H _ us Q I r ⟨p, bs, rfl, h, q vw .rfl' ok rfl _ vvBl⟩
      · exact q.elim
    · exact q.elim
  · exact q.elim
theorem cb_any (hc : X.calm = true) : CallR X (.builtin "any") (qB X.w X.K G bAny) := by
  rintro pins s σ H vs us Q I r ⟨vw, xs, rfl, ok, rs, q⟩
  unfold bAny at q
  split at q
  · obtain ⟨v, _, rfl, rv, rfl⟩ := rs
    split at q
    · rename_i ys e
      split at q
      · rename_i bs hb
        obtain ⟨p, ws, rfl, hl, rw_, h⟩ := seqOf_rel ok rv e
        rw [if_pos rfl] at h
        rw [blsOf_rel rw_ hb] at h
        exact cr_any hc pins s σ vw.H _ us Q I r ⟨p, bs, rfl, h, q vw .rfl' ok rfl _ vvBl⟩
      · exact q.elim
    · exact q.elim
  · exact q.elim
def bSum : MF := fun xs st => match xs with
  | [z] => (match seqOf st z with
    | some (_, ys) => (match intsOf ys with
      | some ns => .ok (.p (.int ns.sum)) st
      | none => .no)
    | _ => .no)
  | _ => .no
theorem sum_tuple {prog : Program} {w : World} {A : Around} {E : Value → Shared → Prop} {s : Shared} {its : List Value} {ns : List Int} {l : Addr} {Q : Value → Shared → Prop} (hh : A.handled = none) (hl : s.heap.IsTuple l its.toArray) (hi : IntsAre its ns)
    (h : ∀ h' tk t', (∀ b o, s.heap.get? b = some o → h'.get? b = some o) → Q (.int ns.sum t') { s with heap := h', toks := tk }) : wpAny (model prog w) A (call (.builtin "sum") [.ref l]) Q E s := by
  obtain ⟨xs, e⟩ := hi.allInts.items
  have hn : numsOf (intItems xs).toList = ns := by rw [← e]; exact hi.numsOf
  rw [nums_intItems] at hn
  refine call_sum_walkG ?_
  refine wpAny_pyIter_tuple hl ?_
  have hlt : l < s.heap.objs.size := by obtain ⟨o, ho, _⟩ := hl; exact Heap.lt_size ho
  refine ⟨s.heap.objs.size, [s.heap.objs.size, l], [s.heap.objs.size], its.toArray.size, _, _, numAt xs, rfl, Walks.tuple (A := A.in1) hh _ l (Nat.ne_of_lt hlt) its.toArray, ⟨⟨_, Heap.get?_push_size _ rfl, rfl, rfl⟩, hl.at fun o ho => Heap.get?_push_of_some _ ho⟩, fun b hb => ?_, fun i v hv => ?_, fun h' tk t' hk => ?_⟩
  · rw [Heap.size_push]
    rcases List.mem_cons.mp hb with rfl | hb
    · exact Nat.lt_succ_self _
    · rw [List.mem_singleton.mp hb]; exact Nat.lt_succ_of_lt hlt
  · rw [e] at hv
    unfold intItems at hv
    rw [Array.getElem?_map] at hv
    obtain ⟨p, hp, rfl⟩ := Option.map_eq_some_iff.mp hv
    exact ⟨p.2, by unfold numAt; rw [hp]; rfl⟩
  · have := h h' tk t' fun b o ho => hk b o (fun hm => by rw [List.mem_singleton.mp hm] at ho; exact absurd (Heap.lt_size ho) (Nat.lt_irrefl _)) (Heap.get?_push_of_some _ ho)
    have hz : its.toArray.size = xs.toList.length := by rw [e]; unfold intItems; simp
    rw [hz, preSum_eq, List.take_of_length_le (by simp), hn]
    exact this
theorem cb_sum (hc : X.calm = true) : CallR X (.builtin "sum") (qB X.w X.K G bSum) := by
  rintro pins s σ H vs us Q I r ⟨vw, xs, rfl, ok, rs, q⟩
  unfold bSum at q
  split at q
  · obtain ⟨v, _, rfl, rv, rfl⟩ := rs
    split at q
    · rename_i b ys e
      split at q
      · rename_i ns hb
        obtain ⟨p, ws, rfl, hl, rw_, h⟩ := seqOf_both ok rv e
        rw [intsOf_rel rw_ hb] at h
        rcases h with h | h
        · exact cr_sum hc pins s σ vw.H _ us Q I r ⟨p, ns, rfl, h, q vw .rfl' ok rfl _ vvInt⟩
        · obtain ⟨its, rvs, ht, _⟩ := I.tuple h
          rw [Vals.ref1 r]
          exact sum_tuple (I.ok.hd hc) ht (intsAre_of rvs) fun h' tk t' hk => ⟨.int _, vw.H, I.kept hk, ⟨_, rfl⟩, q vw .rfl' ok rfl _ vvInt⟩
      · exact q.elim
    · exact q.elim
  · exact q.elim
def bMin : MF := fun xs st => match xs with
  | [.p (.int i), .p (.int j)] => .ok (.p (.int (if j < i then j else i))) st
  | [z] => (match seqOf st z with
    | some (_, ys) => (match intsOf ys with
      | some (n :: ns) => .ok (.p (.int (ns.foldl min n))) st
      | _ => .no)
    | _ => .no)
  | _ => .no
def bMax : MF := fun xs st => match xs with
  | [.p (.int i), .p (.int j)] => .ok (.p (.int (if j > i then j else i))) st
  | [z] => (match seqOf st z with
    | some (_, ys) => (match intsOf ys with
      | some (n :: ns) => .ok (.p (.int (ns.foldl max n))) st
      | _ => .no)
    | _ => .no)
  | _ => .no
theorem alike_int (ns : List Int) : AlikeAll (ns.map PyData.int) := by
  refine ⟨fun x hx y hy => ?_, fun x hx => ?_⟩
  · obtain ⟨a, _, rfl⟩ := List.mem_map.mp hx
    obtain ⟨b, _, rfl⟩ := List.mem_map.mp hy
    rfl
  · obtain ⟨a, _, rfl⟩ := List.mem_map.mp hx
    exact fun z => nomatch z
theorem reads_ints {h : Heap} : ∀ {its : List Value} {ns : List Int}, Vals (ns.map V.int) its → ReadsAll h its (ns.map PyData.int) []
  | _, [], r => by cases r; exact .nil
  | _, n :: ns, r => by
    cases r with
    | cons a b =>
      obtain ⟨t, rfl⟩ := a
      exact .cons (as := []) (bs := []) (.int _ _) (reads_ints b)
theorem depth_int : ∀ ns : List Int, PyData.depthAll (ns.map PyData.int) = 0 := PySem.W.depth_ints
theorem reads_int_inv {h : Heap} {v : Value} {i : Int} {bs : List Addr} (r : Reads h v (.int i) bs) : ∃ t, v = .int i t := by
  cases r
  exact ⟨_, rfl⟩
theorem cb_min (hu : X.A.units + 65 < cLine) (hc : X.calm = true) : CallR X (.builtin "min") (qB X.w X.K G bMin) := by
  rintro pins s σ H vs us Q I r ⟨vw, xs, rfl, ok, rs, q⟩
  unfold bMin at q
  split at q
  · rename_i i j
    obtain ⟨v, _, rfl, rv, v2, _, rfl, rv2, rfl⟩ := rs
    rw [RelVV.int rv, RelVV.int rv2] at r
    exact call_min2 hc pins s σ vw.H _ us Q I r ⟨i, j, rfl, q vw .rfl' ok rfl _ vvInt⟩
  · obtain ⟨v, _, rfl, rv, rfl⟩ := rs
    split at q
    · rename_i b ys e
      split at q
      · rename_i n ns hb
        obtain ⟨p, ws, rfl, hl, rw_, h⟩ := seqOf_both ok rv e
        rw [intsOf_rel rw_ hb] at h
        rw [Vals.ref1 r]
        have fin : ∀ (v : Value) h' tk bs, Reads h' v (minD (.int n) (ns.map .int)) bs → (∀ b o, s.heap.get? b = some o → h'.get? b = some o) → EP X pins σ Q v { s with heap := h', toks := tk } := fun v h' tk bs rd hk => by
          rw [minD_ints] at rd
          obtain ⟨t, rfl⟩ := reads_int_inv rd
          exact ⟨.int _, vw.H, I.kept hk, ⟨_, rfl⟩, q vw .rfl' ok rfl _ vvInt⟩
        have hd : X.A.units + 1 + PyData.depthAll (PyData.int n :: ns.map PyData.int) < cLine := by
          have := depth_int (n :: ns)
          rw [List.map_cons] at this
          rw [this]; omega
        rcases h with h | h
        · obtain ⟨its, rvs, ht, _⟩ := I.list h
          exact min_list_data (I.ok.hd hc) ht.isList (by simpa using reads_ints rvs) (alike_int (n :: ns)) hd fun i v h' tk bs _ rd hk => fin v h' tk bs rd hk
        · obtain ⟨its, rvs, ht, _⟩ := I.tuple h
          exact min_tuple_data (I.ok.hd hc) ht (by simpa using reads_ints rvs) (alike_int (n :: ns)) hd fun i v h' tk bs _ rd hk => fin v h' tk bs rd hk
      · exact q.elim
    · exact q.elim
  · exact q.elim
theorem cb_max (hu : X.A.units + 65 < cLine) (hc : X.calm = true) : CallR X (.builtin "max") (qB X.w X.K G bMax) := by
  rintro pins s σ H vs us Q I r ⟨vw, xs, rfl, ok, rs, q⟩
  unfold bMax at q
  split at q
  · rename_i i j
    obtain ⟨v, _, rfl, rv, v2, _, rfl, rv2, rfl⟩ := rs
    rw [RelVV.int rv, RelVV.int rv2] at r
    exact call_max2 hc pins s σ vw.H _ us Q I r ⟨i, j, rfl, q vw .rfl' ok rfl _ vvInt⟩
  · obtain ⟨v, _, rfl, rv, rfl⟩ := rs
    split at q
    · rename_i b ys e
      split at q
      · rename_i n ns hb
        obtain ⟨p, ws, rfl, hl, rw_, h⟩ := seqOf_both ok rv e
        rw [intsOf_rel rw_ hb] at h
        rw [Vals.ref1 r]
        have fin : ∀ (v : Value) h' tk bs, Reads h' v (maxD (.int n) (ns.map .int)) bs → (∀ b o, s.heap.get? b = some o → h'.get? b = some o) → EP X pins σ Q v { s with heap := h', toks := tk } := fun v h' tk bs rd hk => by
          rw [maxD_ints] at rd
          obtain ⟨t, rfl⟩ := reads_int_inv rd
          exact ⟨.int _, vw.H, I.kept hk, ⟨_, rfl⟩, q vw .rfl' ok rfl _ vvInt⟩
        have hd : X.A.units + 1 + PyData.depthAll (PyData.int n :: ns.map PyData.int) < cLine := by
          have := depth_int (n :: ns)
          rw [List.map_cons] at this
          rw [this]; omega
        rcases h with h | h
        · obtain ⟨its, rvs, ht, _⟩ := I.list h
          exact max_list_data (I.ok.hd hc) ht.isList (by simpa using reads_ints rvs) (alike_int (n :: ns)) hd fun i v h' tk bs _ rd hk => fin v h' tk bs rd hk
        · obtain ⟨its, rvs, ht, _⟩ := I.tuple h
          exact max_tuple_data (I.ok.hd hc) ht (by simpa using reads_ints rvs) (alike_int (n :: ns)) hd fun i v h' tk bs _ rd hk => fin v h' tk bs rd hk
      · exact q.elim
    · exact q.elim
  · exact q.elim
/-- max(xs, default=d), xs ints -/
def rMaxDef (t : RA) (d : Int) : RX := fun env st => (t env st).bind fun xs st1 => match xs with
  | [z] => (match seqOf st1 z with
    | some (true, ys) => (match intsOf ys with
      | some [] => .ok (.p (.int d)) st1
      | some (n :: ns) => .ok (.p (.int (ns.foldl max n))) st1
      | none => .no)
    | _ => .no)
  | _ => .no
theorem crk_max (hu : X.A.units + 65 < cLine) (hc : X.calm = true) : CallRK X (.builtin "max") ["default"] (fun vs zs H Q => ∃ p ns d, vs = [V.ref p] ∧ zs = [V.int d] ∧ SqL X.K H p (ns.map V.int) ∧ (ns = [] → Q (.int d) H) ∧ ∀ n ms, ns = n :: ms → Q (.int (ms.foldl max n)) H) := by
  rintro pins s σ H vs zs us ws Q I r r2 ⟨p, ns, d, rfl, rfl, h, q0, q1⟩
  rw [Vals.ref1 r]
  obtain ⟨u, rfl, t, rfl⟩ := vals1 r2
  obtain ⟨its, rvs, ht, _⟩ := I.list h
  refine max_list_default (d := .int d t) (I.ok.hd hc) ht.isList (by simpa using reads_ints rvs) (alike_int ns) (by rw [depth_int]; omega) (fun e h' tk hk => ?_) fun y ys i v h' tk bs ey _ rd hk => ?_
  · have en : ns = [] := by simpa using e
    exact ⟨.int d, H, I.kept hk, ⟨_, rfl⟩, q0 en⟩
  · cases ns with
    | nil => cases ey
    | cons n ms =>
      rw [List.map_cons] at ey
      cases ey
      rw [maxD_ints] at rd
      obtain ⟨t, rfl⟩ := reads_int_inv rd
      exact ⟨.int _, H, I.kept hk, ⟨_, rfl⟩, q1 n ms rfl⟩
end
end Ev
end S_Ev17
section S_Ev18
namespace Ev
open PySem PySem.Spec PyProof.Rows L2
/-! ### the keys of a dict -/
/-- the keys of a locked dict with nested keys -/
def Itkn (w : World) (d : Addr) (o : Obj) (xs : List (NestedKey × Addr × V)) : It :=
  ⟨fun i H => H d = some (.frz o (DN w d xs)) ∧ i < xs.length, fun i H v H' => H' = H ∧ ∃ x, xs[i]? = some x ∧ v = .ref x.2.1, fun i H => H d = some (.frz o (DN w d xs)) ∧ xs.length ≤ i⟩
theorem frzN {X : Cx} {pins : List (Addr × Obj)} {σ : SSt} {H : Hp} {s : Shared} {d : Addr} {o : Obj} {xs : List (NestedKey × Addr × V)} (I : Inv X pins σ H s) (h : H d = some (.frz o (DN X.w d xs))) :
    (d == sysModules) = false ∧ s.heap.get? d = some o ∧ o.ExactDict ∧ ∃ (es : Array DictEntry) (ep : Nat), o.data = .dict es ep ∧ es.size = xs.length ∧ ∀ (i : Nat) (x : NestedKey × Addr × V), xs[i]? = some x → ∃ en : DictEntry, es[i]? = some en ∧ en.key = Value.ref x.2.1 := by
  obtain ⟨hd, ⟨z1, z2, o', es, ep, ho, hx, hdt, hp, hn⟩, _⟩ := I.hok d _ h
  rw [hd] at ho
  cases ho
  refine ⟨z1, hd, hx, es, ep, hdt, ?_, fun i x e => ?_⟩
  · rw [Paired.length hp]; simp
  · obtain ⟨en, e1, v, _, e2⟩ := paired_get hp e
    exact ⟨en, by rw [← Array.getElem?_toList]; exact e1, by rw [e2]⟩
theorem dict_ep' {o : Obj} {es es' : Array DictEntry} {ep ep' : Nat} (h : o.data = .dict es ep) (h' : o.data = .dict es' ep') : es' = es ∧ ep' = ep := by
  rw [h] at h'
  cases h'
  exact ⟨rfl, rfl⟩
theorem turn_keysN {P : Program} {w : World} {K : PySem.W.Frag} {tg : Expr} {d : Addr} {o : Obj} {es : Array DictEntry} {ep : Nat} {xs : List (NestedKey × Addr × V)} (it : Addr) (hod : o.data = .dict es ep) :
    Turn P w K tg (Itkn w d o xs) [it] it (fun i h => h.IsKeyIter it d i xs.length ep) where
  mem := by simp
  obj := fun i h st b hb => by
    have e : b = it := by simpa using hb
    subst e
    obtain ⟨oi, e, c, dd⟩ := st
    exact ⟨oi, e, fun v z => by rw [dd] at z; cases z⟩
  keep := fun i h h' st k => st.at fun oi e => k it (by simp) oi e
  item := by
    intro X hP hw hK hc i pins s σ H E I hf st hg
    subst hP hw hK
    obtain ⟨hd, hi⟩ := hg
    obtain ⟨f0, f1, f2, f3, f4, f5⟩ := hf it (by simp)
    obtain ⟨hs, hgd, hx, es', ep', hdt, hsz, ent⟩ := frzN I hd
    obtain ⟨rfl, rfl⟩ := dict_ep' hod hdt
    obtain ⟨en, hen, hkey⟩ := ent i _ (List.getElem?_eq_getElem hi)
    refine next_key_item st hgd hdt hsz hen fun h' st' sb => ?_
    have I1 : Inv X pins σ H { s with heap := h' } := I.turned (t' := s.toks) (fun b ob hb e => (sb.2 b hb).trans e) f0 f1 f3 f4 f5
    obtain ⟨oi, e, c, dd⟩ := id st'
    exact ⟨en.key, rfl, go_of (s := { s with heap := h' }) e c dd (by decide) ⟨.ref xs[i].2.1, H, I1, hkey, ⟨rfl, _, List.getElem?_eq_getElem hi, rfl⟩, st', fun b hb => (hf b hb).1⟩⟩
  done := by
    intro X hP hw hK hc i pins s σ H E I hf st hg
    subst hP hw hK
    obtain ⟨hd, hi⟩ := hg
    obtain ⟨f0, f1, f2, f3, f4, f5⟩ := hf it (by simp)
    obtain ⟨hs, hgd, hx, es', ep', hdt, hsz, ent⟩ := frzN I hd
    obtain ⟨rfl, rfl⟩ := dict_ep' hod hdt
    exact next_key_end (I.ok.hd hc) st hgd hdt hsz hi fun h' eb => ⟨rfl, I.turned (t' := s.toks) (fun b ob hb e => eb b ob hb e) f0 f1 f3 f4 f5⟩
  self := fun A i s Q E st h => by
    refine wpAny_pyIter_slot st.typeIs F.slot_dict_keyiterator_iter (wpAny_call_entry F.slot_dict_keyiterator_iter st.typeIs F.entry_dict_keyiterator_iter ?_ (F.args_dict_keyiterator_iter_1 _))
    show wpAny _ _ (ret (.ref it)) _ _ s
    exact wpAny_pure ⟨_, rfl, "dict_keyiterator", _, st.typeIs, F.slot_dict_keyiterator_next.lookup, h⟩
def iKeysN (w : World) (td : TE) : TI := fun σ H R => td σ H fun x H1 => ∃ d o, x = .ref d ∧ ((∃ kvs, H1 d = some (.frz o (.dK kvs)) ∧ R (Itk d o kvs) H1) ∨ ∃ xs, H1 d = some (.frz o (DN w d xs)) ∧ R (Itkn w d o xs) H1)
section
variable {X : Cx} {G : Nat → Addr} {E : WE} {tg e : Expr} {td : TE} {ra : RX}
theorem pi_keysN (he : PE X e td) : PI X tg e (iKeysN X.w td) := by
  refine ⟨fun pins s σ H R I h => ?_⟩
  refine thn (he.run pins s σ H _ I h) fun u s1 ⟨x, H1, I1, rx, d, o, ex, q⟩ => ?_
  subst ex
  obtain rfl : u = Value.ref d := rx
  rcases q with ⟨kvs, hd, q⟩ | ⟨xs, hd, q⟩
  · obtain ⟨hs, hgd, hx, es, ep, vs, hdt, hsz, kv, hm⟩ := I1.frzK hd
    refine iter_keys hs hgd hx hdt (pi_one (tk := s1.toks) I1 _ (turn_keys _ hdt) ⟨_, Heap.get?_push_size _ rfl, rfl, ?_⟩ q)
    rw [hsz] <;> rfl
  · obtain ⟨hs, hgd, hx, es, ep, hdt, hsz, ent⟩ := frzN I1 hd
    refine iter_keys hs hgd hx hdt (pi_one (tk := s1.toks) I1 _ (turn_keysN _ hdt) ⟨_, Heap.get?_push_size _ rfl, rfl, ?_⟩ q)
    rw [hsz] <;> rfl
/-- the keys of a dict that is a value, or stands locked -/
def rKeys (r : RX) : RI := fun env st => (r env st).bind fun x st1 => match x with
  | .p (.dct _ ks _) => .ok ks st1
  | .ref n => (match st1[n]? with
    | some (some (.dct _ true ks _)) => .ok ks st1
    | _ => .no)
  | _ => .no
theorem it_keysN {w : World} {K : PySem.W.Frag} {vw1 : Vw} {d : Addr} {o : Obj} {xs : List (NestedKey × Addr × V)} {ks : List PV} (h : vw1.H d = some (.frz o (DN w d xs))) (r : RelPs w K G vw1.H vw1.Z ks (xs.map fun x => V.ref x.2.1)) : ItOk w K G vw1 (Itkn w d o xs) ks where
  go := fun i vw' l ok hi => ⟨l.fz _ _ _ h, by have := r.len; rw [List.length_map] at this; omega⟩
  stop := fun i vw' l ok hi => ⟨l.fz _ _ _ h, by have := r.len; rw [List.length_map] at this; omega⟩
  yld := fun i vw' x H' l ok y z ez => by
    obtain ⟨rfl, e, hx, rfl⟩ := y
    obtain ⟨v, e1, r1⟩ := r.get ez
    rw [List.getElem?_map, hx] at e1
    cases e1
    exact ⟨vw', rfl, .rfl', ok, rfl, fun _ h => h, l.p r1⟩
  held := fun i vw' x H' l ok y _ a _ => by rw [y.1]
theorem it_keysK {w : World} {K : PySem.W.Frag} {vw1 : Vw} {d : Addr} {o : Obj} {kvs : List (Key × V)} (h : vw1.H d = some (.frz o (.dK kvs))) : ItOk w K G vw1 (Itk d o kvs) (kvs.map fun kv => kP kv.1) where
  go := fun i vw' l ok hi => ⟨l.fz _ _ _ h, by simpa using hi⟩
  stop := fun i vw' l ok hi => ⟨l.fz _ _ _ h, by rw [hi]; simp⟩
  yld := fun i vw' x H' l ok y z ez => by
    obtain ⟨rfl, k, v, hx, rfl⟩ := y
    rw [List.getElem?_map, hx] at ez
    cases ez
    refine ⟨vw', rfl, .rfl', ok, rfl, fun _ h => h, ?_⟩
    cases k with
    | inl i => show RelP _ _ _ _ _ (.int i) (.int i); rw [RelP]
    | inr i => show RelP _ _ _ _ _ (.str i) (.str i); rw [RelP]
  held := fun i vw' x H' l ok y _ a _ => by rw [y.1]
theorem pxi_keys (he : PX X G E e ra) : PXI X G E tg e (rKeys ra) := (pi_keysN he).weak fun σ H R ⟨vw, env, eH, ok, re, q⟩ => by
  refine ⟨vw, env, eH, ok, re, (GQ.bind q).imp fun vw1 x l1 ok1 q1 v1 r1 => ?_⟩
  split at q1
  · rename_i nk ks us
    have r1' : RelP X.w X.K G vw1.H vw1.Z (.dct nk ks us) v1 := r1
    cases nk with
    | true =>
      rw [RelP] at r1'
      obtain ⟨a, rfl, hz, xs, ⟨o, h1⟩, h2, h3, h4, h5⟩ := r1'
      exact ⟨a, o, rfl, .inr ⟨xs, h1, q1 vw1 .rfl' ok1 rfl _ _ ⟨vw1, rfl, .rfl', ok1, rfl, it_keysN h1 h4⟩⟩⟩
    | false =>
      rw [RelP] at r1'
      obtain ⟨a, rfl, hz, kvs, ⟨o, h1⟩, rfl, h3⟩ := r1'
      exact ⟨a, o, rfl, .inl ⟨kvs, h1, q1 vw1 .rfl' ok1 rfl _ _ ⟨vw1, rfl, .rfl', ok1, rfl, it_keysK h1⟩⟩⟩
  · rename_i n
    split at q1
    · rename_i nk ks us eo
      obtain ⟨hn, rfl⟩ := r1
      cases nk with
      | true =>
        obtain ⟨xs, ⟨o, h1⟩, h2, h3, h4, h5⟩ := ok1.ob n _ eo
        exact ⟨_, o, rfl, .inr ⟨xs, h1, q1 vw1 .rfl' ok1 rfl _ _ ⟨vw1, rfl, .rfl', ok1, rfl, it_keysN h1 h4⟩⟩⟩
      | false =>
        obtain ⟨kvs, ⟨o, h1⟩, rfl, h3⟩ := ok1.ob n _ eo
        exact ⟨_, o, rfl, .inl ⟨kvs, h1, q1 vw1 .rfl' ok1 rfl _ _ ⟨vw1, rfl, .rfl', ok1, rfl, it_keysK h1⟩⟩⟩
    · exact q1.elim
  · exact q1.elim
/-! ### a dict of the store is locked while a statement walks it -/
/-- which object: the i-th name's, or one in its fields -/
inductive Pth where
  | var (i : Nat) | fld (p : Pth) (f : Str)
def Pth.at : Pth → EE → Sto → Option VV
  | .var i, env, _ => match env[i]? with
    | some (some x) => some x
    | _ => none
  | .fld p f, env, st => match p.at env st with
    | some (.ref n) => (match st[n]? with
      | some (some (.ins _ fs us)) => lkV fs us f
      | _ => none)
    | _ => none
def unlk (n : Nat) (st : Sto) : Option Sto := match st[n]? with
  | some (some (.dct nk true ks us)) => some (st.set n (some (.dct nk false ks us)))
  | _ => none
def unlS (n : Nat) (r : SRes) : SRes := match r with
  | .nx e st => (match unlk n st with
    | some st' => .nx e st'
    | none => .no)
  | .rt x st => (match unlk n st with
    | some st' => .rt x st'
    | none => .no)
  | .bk e st => (match unlk n st with
    | some st' => .bk e st'
    | none => .no)
  | .ct e st => (match unlk n st with
    | some st' => .ct e st'
    | none => .no)
  | _ => .no
def sLock (p : Pth) (s : RS) : RS := fun env st => match p.at env st with
  | some (.ref n) => (match st[n]? with
    | some (some (.dct nk false ks us)) => unlS n (s env (st.set n (some (.dct nk true ks us))))
    | _ => .no)
  | _ => .no
end
section
variable {w : World} {K : PySem.W.Frag} {G : Nat → Addr} {vw vw1 : Vw}
theorem relPs_of {H H' : Hp} {Z Z' : Addr → Prop} (hp : ∀ x v, RelP w K G H Z x v → RelP w K G H' Z' x v) : ∀ {xs : List PV} {vs : List V}, RelPs w K G H Z xs vs → RelPs w K G H' Z' xs vs
  | [], vs, h => by rw [RelPs] at h ⊢; exact h
  | x :: xs, vs, h => by
    rw [RelPs] at h ⊢
    obtain ⟨v, r, e, h1, h2⟩ := h
    exact ⟨v, r, e, hp x v h1, relPs_of hp h2⟩
theorem relVs_of (hv : ∀ x v, RelVV w K G vw x v → RelVV w K G vw1 x v) : ∀ {xs : List VV} {vs : List V}, RelVs w K G vw xs vs → RelVs w K G vw1 xs vs
  | [], vs, h => h
  | x :: xs, vs, h => by
    obtain ⟨v, r, e, h1, h2⟩ := h
    exact ⟨v, r, e, hv x v h1, relVs_of hv h2⟩
theorem OkOb.move {a : Addr} {o : Ob} (hp : ∀ x v, RelP w K G vw.H vw.Z x v → RelP w K G vw1.H vw1.Z x v) (hv : ∀ x v, RelVV w K G vw x v → RelVV w K G vw1 x v) (e : vw1.H a = vw.H a) (h : OkOb w K G vw a o) : OkOb w K G vw1 a o := by
  cases o with
  | lst lk xs =>
    obtain ⟨vs, h1, h2, h3⟩ := h
    exact ⟨vs, by rw [e]; exact h1, h2, relPs_of hp h3⟩
  | dct nk lk ks us =>
    cases nk with
    | true =>
      obtain ⟨xs, h1, h2, h3, h4, h5⟩ := h
      exact ⟨xs, h1.eq e, h2, h3, relPs_of hp h4, relPs_of hp h5⟩
    | false =>
      obtain ⟨kvs, h1, h2, h3⟩ := h
      exact ⟨kvs, h1.eq e, h2, relPs_of hp h3⟩
  | ins c fs us =>
    obtain ⟨dx, vs, h1, h2, h3⟩ := h
    exact ⟨dx, vs, by rw [e]; exact h1, h2, relVs_of hv h3⟩
  | lkl xs =>
    obtain ⟨vs, h1, h2, h3⟩ := h
    exact ⟨vs, by rw [e]; exact h1, h2, relPs_of hp h3⟩
def DctU (w : World) (a : Addr) (nk : Bool) (u : HO) : Prop := match nk with
  | true => ∃ xs, u = DN w a xs
  | false => ∃ kvs, u = .dK kvs
/-- a dict of the store is locked, and unlocked again -/
theorem lock_ok {n : Nat} {nk : Bool} {ks us : List PV} (ok : VOk w K G vw) (eo : vw.st[n]? = some (some (.dct nk false ks us))) : ∃ u, vw.H (vw.al n) = some u ∧ Mut (some u) ∧ ∀ od, ∃ vw1, vw1.H = upd vw.H (vw.al n) (.frz od u) ∧ Le K vw vw1 ∧ VOk w K G vw1 ∧ vw1.st = vw.st.set n (some (.dct nk true ks us)) ∧
    ∀ vw' st', Le K vw1 vw' → VOk w K G vw' → unlk n vw'.st = some st' → ∃ vw2, vw'.H (vw.al n) = some (.frz od u) ∧ vw2.H = upd vw'.H (vw.al n) u ∧ Le K vw vw2 ∧ VOk w K G vw2 ∧ vw2.st = st' ∧ ∀ x v, RelVV w K G vw' x v → RelVV w K G vw2 x v := by
  have hu : ∃ u, vw.H (vw.al n) = some u ∧ Mut (some u) ∧ isTup u = false ∧ ∀ od, OkOb w K G (vw.write n (.frz od u) (.dct nk true ks us)) (vw.al n) (.dct nk true ks us) := by
    have h := ok.ob n _ eo
    cases nk with
    | true =>
      obtain ⟨xs, h1, h2, h3, h4, h5⟩ := h
      refine ⟨_, h1, trivial, rfl, fun od => ?_⟩
      have l := Le.write (K := K) (o := .frz od (DN w (vw.al n) xs)) (ob := .dct true true ks us) ok eo h1 rfl
      exact ⟨xs, ⟨od, upd_same⟩, h2, h3, l.ps h4, l.ps h5⟩
    | false =>
      obtain ⟨kvs, h1, h2, h3⟩ := h
      refine ⟨_, h1, trivial, rfl, fun od => ?_⟩
      have l := Le.write (K := K) (o := .frz od (.dK kvs)) (ob := .dct false true ks us) ok eo h1 rfl
      exact ⟨kvs, ⟨od, upd_same⟩, h2, l.ps h3⟩
  obtain ⟨u, hu, mu, nt, hob⟩ := hu
  have hn : n < vw.st.length := (List.getElem?_eq_some_iff.mp eo).1
  refine ⟨u, hu, mu, fun od => ⟨vw.write n (.frz od u) (.dct nk true ks us), rfl, Le.write ok eo hu nt, VOk.write ok eo hu nt (hob od), rfl, fun vw' st' l' ok' hl => ?_⟩⟩
  have l0 : Le K vw (vw.write n (.frz od u) (.dct nk true ks us)) := Le.write ok eo hu nt
  have l := l0.trans l'
  have hfz : vw'.H (vw.al n) = some (.frz od u) := l'.fz _ _ _ (show upd vw.H (vw.al n) (.frz od u) (vw.al n) = _ from upd_same)
  have hal : vw'.al n = vw.al n := l.al n hn
  unfold unlk at hl
  split at hl
  · rename_i nk' ks' us' eo'
    cases hl
    have nz := (ok'.nz n _ eo').1
    have nf := (ok'.nz n _ eo').2
    rw [hal] at nz nf
    have zne : ∀ a, vw'.Z a → a ≠ vw.al n := fun a h q => nz (by rw [← q]; exact h)
    have tup : ∀ a vs, SqT K vw'.H a vs → SqT K (upd vw'.H (vw.al n) u) a vs := fun a vs h => by
      rcases h with h | h
      · refine .inl (Rd.upd h fun q => ?_)
        rw [q] at h
        rcases h with h | ⟨o', h⟩ <;> rw [hfz] at h
        · cases h
        · cases h; cases nt
      · exact .inr h
    have hp : ∀ x v, RelP w K G vw'.H vw'.Z x v → RelP w K G (upd vw'.H (vw.al n) u) vw'.Z x v := fun x v h =>
      RelP.mono (fun _ h => h) (fun a u' z h => Rd.upd h (zne a z)) (fun a o z _ h => by rw [upd_ne (zne a z)]; exact h) tup (fun a u' z ⟨o, h⟩ => ⟨o, by rw [upd_ne (zne a z)]; exact h⟩) x v h
    have hv : ∀ x v, RelVV w K G vw' x v → RelVV w K G ({ vw' with H := upd vw'.H (vw.al n) u, st := vw'.st.set n (some (.dct nk' false ks' us')) } : Vw) x v := fun x v h => by
      cases x with
      | p x => exact hp x v h
      | ref m => exact ⟨by show _ < (vw'.st.set n _).length; rw [List.length_set]; exact h.1, h.2⟩
    refine ⟨{ vw' with H := upd vw'.H (vw.al n) u, st := vw'.st.set n (some (.dct nk' false ks' us')) }, hfz, rfl, ?_, ?_, rfl, hv⟩
    · refine ⟨l.z, fun a u' z r => Rd.upd (l.zr a u' z r) (zne a (l.z a z)), fun a o z i r => ?_, l.f, fun a hf => ?_, fun a vs h => tup a vs (l.tu a vs h), l.al, ?_, fun a o u' h => ?_⟩
      · show upd vw'.H (vw.al n) u a = _
        rw [upd_ne (zne a (l.z a z))]
        exact l.ze a o z i r
      · show upd vw'.H (vw.al n) u a = _
        rw [upd_ne (fun q => nf (by rw [← q, l.f]; exact hf))]
        exact l.fr a hf
      · show _ ≤ (vw'.st.set n _).length
        rw [List.length_set]; exact l.len
      · show upd vw'.H (vw.al n) u a = _
        rw [upd_ne (fun q => by rw [q, hu] at h; cases h; cases nt)]
        exact l.fz a o u' h
    · have hn' : n < vw'.st.length := Nat.lt_of_lt_of_le hn l.len
      have cs : ∀ m b, (vw'.st.set n (some (.dct nk' false ks' us')))[m]? = some (some b) → (m = n ∧ b = .dct nk' false ks' us') ∨ (m ≠ n ∧ vw'.st[m]? = some (some b)) := fun m b q => by
        by_cases hm : m = n
        · subst hm
          rw [List.getElem?_set_self hn'] at q
          cases q; exact .inl ⟨rfl, rfl⟩
        · rw [List.getElem?_set_ne (Ne.symm hm)] at q
          exact .inr ⟨hm, q⟩
      have live : ∀ m b, (vw'.st.set n (some (.dct nk' false ks' us')))[m]? = some (some b) → ∃ b', vw'.st[m]? = some (some b') := fun m b q => by
        rcases cs m b q with ⟨rfl, _⟩ | ⟨_, q⟩
        · exact ⟨_, eo'⟩
        · exact ⟨_, q⟩
      refine ⟨ok'.zf, fun a hf => ?_, fun a hz => ?_, fun m b q => ?_, fun m b q => ?_, fun m m' b b' q q' z => ?_, ok'.tab.move (fun _ h => h) (fun _ z => .inl z) (fun _ f => .inl f) (fun P ps e => by
        show upd vw'.H (vw.al n) u P = _
        rw [upd_ne (fun q => by rw [q, hfz] at e; cases e)]
        exact e) fun a o v z e => by
        show upd vw'.H (vw.al n) u a = _
        rw [upd_ne (zne a z)]
        exact e⟩
      · show upd vw'.H (vw.al n) u a ≠ none
        rw [upd_ne (fun q => nf (by rw [← q]; exact hf))]
        exact ok'.fn a hf
      · show upd vw'.H (vw.al n) u a ≠ none
        rw [upd_ne (zne a hz)]
        exact ok'.zn a hz
      · rcases cs m b q with ⟨rfl, rfl⟩ | ⟨hm, q⟩
        · have h := ok'.ob m _ eo'
          have e2 : upd vw'.H (vw.al m) u (vw'.al m) = some u := by rw [hal]; exact upd_same
          cases nk' with
          | true =>
            obtain ⟨xs, ⟨o, h1⟩, h2, h3, h4, h5⟩ := h
            rw [hal, hfz] at h1
            cases h1
            exact ⟨xs, by show upd vw'.H (vw.al m) _ (vw'.al m) = _; rw [e2, hal], h2, h3, relPs_of hp h4, relPs_of hp h5⟩
          | false =>
            obtain ⟨kvs, ⟨o, h1⟩, h2, h3⟩ := h
            rw [hal, hfz] at h1
            cases h1
            exact ⟨kvs, e2, h2, relPs_of hp h3⟩
        · refine (ok'.ob m b q).move hp hv (show upd vw'.H (vw.al n) u (vw'.al m) = vw'.H (vw'.al m) from upd_ne fun z => hm (ok'.inj m n b _ q eo' (by rw [hal]; exact z)))
      · obtain ⟨b', q'⟩ := live m b q
        exact ok'.nz m b' q'
      · obtain ⟨c, q1⟩ := live m b q
        obtain ⟨c', q2⟩ := live m' b' q'
        exact ok'.inj m m' c c' q1 q2 z
  · cases hl
end
section
variable {X : Cx} {G : Nat → Addr} {E : WE} {st : Stmt} {rs : RS}
theorem RepE.of {w : World} {K : PySem.W.Frag} {vw vw1 : Vw} {env : EE} {σ : SSt} (hv : ∀ x v, RelVV w K G vw x v → RelVV w K G vw1 x v) (h : RepE w K G vw env σ) : RepE w K G vw1 env σ := ⟨h.1, fun i x e => let ⟨v, a, b⟩ := h.2 i x e; ⟨v, a, hv _ _ b⟩⟩
theorem pxs_lock (p : Pth) (h : PXS X G E st rs) : PXS X G E st (sLock p rs) := (ps_lock h).weak fun D σ H ⟨vw, env, eH, ok, re, q⟩ => by
  subst eH
  unfold sLock at q
  split at q
  · rename_i n hn
    split at q
    · rename_i nk ks us eo
      obtain ⟨u, hu, mu, hl⟩ := lock_ok ok eo
      refine ⟨vw.al n, u, hu, mu, fun od => ?_⟩
      obtain ⟨vw1, eH1, l1, ok1, es1, un⟩ := hl od
      refine ⟨vw1, env, eH1, ok1, re.mono l1, ?_⟩
      rw [es1]
      generalize rs env (vw.st.set n (some (.dct nk true ks us))) = r at q
      cases r with
      | nx e st' =>
        unfold unlS at q
        dsimp only at q
        split at q
        · rename_i st2 h2
          intro vw' σ' l' ok' es' re'
          subst es'
          obtain ⟨vw2, a1, a2, a3, a4, a5, a6⟩ := un vw' st2 l' ok' h2
          refine ⟨a1, ?_⟩
          rw [← a2]
          exact q vw2 σ' a3 a4 a5 (re'.of a6)
        · exact q.elim
      | bk e st' =>
        unfold unlS at q
        dsimp only at q
        split at q
        · rename_i st2 h2
          intro vw' σ' l' ok' es' re'
          subst es'
          obtain ⟨vw2, a1, a2, a3, a4, a5, a6⟩ := un vw' st2 l' ok' h2
          refine ⟨a1, ?_⟩
          rw [← a2]
          exact q vw2 σ' a3 a4 a5 (re'.of a6)
        · exact q.elim
      | ct e st' =>
        unfold unlS at q
        dsimp only at q
        split at q
        · rename_i st2 h2
          intro vw' σ' l' ok' es' re'
          subst es'
          obtain ⟨vw2, a1, a2, a3, a4, a5, a6⟩ := un vw' st2 l' ok' h2
          refine ⟨a1, ?_⟩
          rw [← a2]
          exact q vw2 σ' a3 a4 a5 (re'.of a6)
        · exact q.elim
      | rt x st' =>
        unfold unlS at q
        dsimp only at q
        split at q
        · rename_i st2 h2
          intro vw' v' l' ok' es' rv'
          subst es'
          obtain ⟨vw2, a1, a2, a3, a4, a5, a6⟩ := un vw' st2 l' ok' h2
          refine ⟨a1, ?_⟩
          rw [← a2]
          exact q vw2 v' a3 a4 a5 (a6 _ _ rv')
        · exact q.elim
      | ex c us e st' => exact q.elim
      | no => exact q.elim
    · exact q.elim
  · exact q.elim
end
end Ev
end S_Ev18
section S_Ev19
namespace Ev
open PySem PySem.Spec PyProof.Rows L2
/-! ### enumerate(a tuple) -/
set_option maxHeartbeats 1000000 in
theorem meets_enum1 {v : Value} {o : Obj} {H : Heap → Prop} (B : Begins v o H) :
    Meets (Builtin.«enumerate.__new__» ⟨[.type "enumerate", v], []⟩) (fun _ R s => H s.heap ∧
      R (.ok (.ret (.ref (s.heap.push o).objs.size))) { s with heap := (s.heap.push o).push { cls := .type "enumerate", data := .fields #[.none, .bool false, .ref s.heap.objs.size, rawInt 0, .none, .none] } }) :=
  .of_wp fun prog w A R s h => by
    obtain ⟨hp, g, d, tk, os⟩ := s; obtain ⟨h1, h⟩ := h
    have hsub := sub_enumerate
    have q1 : ∀ {A' : Around} {E : Value → Shared → Prop} {Q : Value → Shared → Prop}, Q (.ref hp.objs.size) ⟨hp.push o, g, d, tk, os⟩ → wpAny (model prog w) A' (pyIter v) Q E ⟨hp, g, d, tk, os⟩ :=
      fun q => B.iter prog w _ _ ⟨hp, g, d, tk, os⟩ _ h1 q
    wp_walk using q1
    refine wpAny_stack_any fun st => wpAny_pure ?_
    split
    · rename_i c _ _ _ _ _
      cases (c == Value.type "enumerate")
      · wp_walk using q1
        exact ⟨_, rfl, h⟩
      · wp_walk using q1
        exact ⟨_, rfl, h⟩
    · wp_walk using q1
      exact ⟨_, rfl, h⟩
theorem call_enum1 {prog : Program} {w : World} {A : Around} {E : Value → Shared → Prop} {s : Shared} {v : Value} {o : Obj} {H : Heap → Prop} {Q : Value → Shared → Prop} (B : Begins v o H) (h1 : H s.heap)
    (h : ∀ h', IsEnum h' (s.heap.objs.size + 1) s.heap.objs.size 0 .none → h'.get? s.heap.objs.size = some o → h'.objs.size = s.heap.objs.size + 2 →
      (∀ b o, s.heap.get? b = some o → h'.get? b = some o) → Q (.ref (s.heap.objs.size + 1)) { s with heap := h' }) :
    wpAny (model prog w) A (call (.type "enumerate") [v]) Q E s := by
  refine callType_new F.called_enumerate (by decide) (F.typeCall_enumerate_1 _) (F.newCall_enumerate_1 _) (fun obj => F.args_object_init_2 obj _) F.entry_enumerate_new
    (meets_enum1 B) ⟨h1, ?_⟩
  have hz : (s.heap.push o).objs.size = s.heap.objs.size + 1 := Heap.size_push ..
  show _ ∧ _
  rw [hz]
  have he : IsEnum ((s.heap.push o).push { cls := .type "enumerate", data := .fields #[.none, .bool false, .ref s.heap.objs.size, rawInt 0, .none, .none] }) (s.heap.objs.size + 1) s.heap.objs.size 0 .none := by
    have := Heap.get?_push_size (s.heap.push o) (o := { cls := .type "enumerate", data := .fields #[.none, .bool false, .ref s.heap.objs.size, rawInt 0, .none, .none] }) rfl
    rw [hz] at this; exact this
  refine ⟨⟨_, he, rfl⟩, h _ he (Heap.get?_push_of_some _ (Heap.get?_push_size _ B.free)) (by rw [Heap.size_push, hz]) fun b o x => Heap.get?_push_of_some _ (Heap.get?_push_of_some _ x)⟩
/-- the tuple at a as it stands at each turn, each item in a new pair -/
def IteT (K : PySem.W.Frag) (a : Addr) : It :=
  ⟨fun i H => ∃ (xs : List V) (x : V), SqT K H a xs ∧ xs[i]? = some x, fun i H v H' => ∃ T x, v = .ref T ∧ H T = none ∧ H' = upd H T (.tup [.int (i : Nat), x]) ∧ ∀ xs, SqT K H a xs → xs[i]? = some x, fun i H => ∃ xs : List V, SqT K H a xs ∧ xs.length ≤ i⟩
theorem turn_enumT {P : Program} {w : World} {K : PySem.W.Frag} {elts : List Expr} {kk : Nat} {tpos : Pos} (a e it : Addr) :
    Turn P w K (.Tuple elts kk tpos) (IteT K a) [e, it] e (fun i h => (∃ old, IsEnum h e it ((i : Nat) : Int) old) ∧ h.IsTupleIter it a i ∧ e ≠ it) where
  mem := by simp
  obj := fun i h st b hb => by
    obtain ⟨⟨old, he⟩, ⟨o, ho, hc, hd⟩, _⟩ := st
    have e' : b = e ∨ b = it := by simpa using hb
    rcases e' with z | z
    · rw [z]; exact ⟨_, he, fun v q => nomatch q⟩
    · rw [z]; exact ⟨o, ho, fun v q => by rw [hd] at q; cases q⟩
  keep := fun i h h' st k => let ⟨⟨old, he⟩, hi, hne⟩ := st; ⟨⟨old, k e (by simp) _ he⟩, hi.at fun o q => k it (by simp) o q, hne⟩
  item := by
    intro X hP hw hK hc i pins s σ H E I hf st hg
    subst hP hw hK
    obtain ⟨⟨old, he⟩, hit, hne⟩ := st
    obtain ⟨xs, x, hq, hx⟩ := hg
    obtain ⟨its, rv, p, hz⟩ := I.tuple hq
    obtain ⟨u, hu, ru⟩ := rv.get hx
    have hel : e < s.heap.objs.size := Heap.lt_size he
    have hil : it < s.heap.objs.size := by obtain ⟨_, q, _⟩ := hit; exact Heap.lt_size q
    have hal : a < s.heap.objs.size := by obtain ⟨_, q, _⟩ := p; exact Heap.lt_size q
    have hai : a ≠ it := fun z => by
      obtain ⟨o1, q1, c1, _⟩ := p
      obtain ⟨o2, q2, c2, _⟩ := hit
      rw [z, q2] at q1
      cases q1
      rw [c2] at c1
      injection c1 with c1
      exact absurd c1 (by decide)
    have hae : a ≠ e := fun z => by
      obtain ⟨o1, q1, c1, _⟩ := p
      have he' : s.heap.get? e = some _ := he
      rw [z, he'] at q1
      cases q1
      injection c1 with c1
      exact absurd c1 (by decide)
    have D := Draws.tuple (prog := X.prog) (w := X.w) (A := X.A.in1) (I.ok.hd hc) it a hai its.toArray
    have hlt : i < its.toArray.size := by
      have := (List.getElem?_eq_some_iff.mp hu).1
      simpa using this
    refine wpAny_pyNext_enum_itemD D he ⟨hit, p⟩ hlt hne (by simp [hne, Ne.symm hae]) fun y h' tk hy ho hit' hT hsz hk => ?_
    have ey : y = u := by
      have : its.toArray[i]? = some y := hy
      rw [show its.toArray[i]? = some u by simpa using hu] at this
      exact (Option.some.inj this).symm
    subst ey
    refine ⟨_, rfl, wpAny_letOwnedTupleGo_enum (s := { s with heap := h', toks := tk + 1 }) ho fun h'' he' sb => ?_⟩
    have hT2 : h''.get? s.heap.objs.size = some { cls := .type "tuple", data := .seq #[.int i tk, y] } := (sb.2 _ (Nat.ne_of_gt hel)).trans hT
    have new : ObjOk X.prog X.w (upd H s.heap.objs.size (.tup [.int (i : Nat), x])) h'' s.heap.objs.size (.tup [.int (i : Nat), x]) :=
      ⟨by show 2 ≤ sizeLine; decide, [.int i tk, y], .cons ⟨_, rfl⟩ (.cons ru .nil), ⟨_, hT2, rfl, _, rfl⟩⟩
    have I1 : Inv X pins σ (upd H s.heap.objs.size (.tup [.int (i : Nat), x])) { s with heap := h'', toks := tk + 1 } :=
      I.turnedNew (ch := [e, it]) (fun b ob hb q => (sb.2 b (fun z => hb (by simp [z]))).trans (hk b ob (fun z => hb (by simp [z])) (fun z => hb (by simp [z])) q)) hf (Nat.le_refl _) new
    refine ⟨.ref s.heap.objs.size, _, I1, rfl, ⟨_, x, rfl, I.hok.fresh (Nat.le_refl _), rfl, fun ys hy => by rw [I.tuple_inj hy hq]; exact hx⟩, ⟨⟨y, ?_⟩, hit'.1.at fun o q => (sb.2 it (Ne.symm hne)).trans q, hne⟩, fun b hb => ?_⟩
    · have e1 : ((i + 1 : Nat) : Int) = (i : Int) + 1 := by omega
      rw [e1]; exact he'
    · have hb' : b < s.heap.objs.size := by
        have e' : b = e ∨ b = it := by simpa using hb
        rcases e' with z | z
        · rw [z]; exact hel
        · rw [z]; exact hil
      rw [upd_ne (Nat.ne_of_lt hb')]
      exact (hf b hb).1
  done := by
    intro X hP hw hK hc i pins s σ H E I hf st hg
    subst hP hw hK
    obtain ⟨⟨old, he⟩, hit, hne⟩ := st
    obtain ⟨xs, hq, hx⟩ := hg
    obtain ⟨its, rv, p, hz⟩ := I.tuple hq
    obtain ⟨f0, f1, f2, f3, f4, f5⟩ := hf it (by simp)
    have hl := rv.length
    have hT : s.TypeIs (.ref e) "enumerate" := ⟨_, he, rfl⟩
    unfold pyNext
    refine wpAny_bind (wpAny_attempt (wpAny_callSpecial?_slot (name := Str.ofString "__next__") hT F.slot_enumerate_next
      (wpAny_call_entry F.slot_enumerate_next hT F.entry_enumerate_next ?_ (F.args_enumerate_next_1 _))))
    show wpAny _ _ (field (.ref e) 2 >>= _) _ _ _
    refine wpAny_bind (wpAny_field he rfl (x := .ref it) rfl ?_)
    refine wpAny_bind (PySem.wpAny_nextOf_tuple_end (A := X.A.in1) (I.ok.hd hc) hit (show s.heap.IsTuple a its.toArray from p) (by simp; omega) fun h' x he' hx' => ?_)
    obtain ⟨o, ho, hc'⟩ := hx'
    refine wpAny_bind (wpAny_isInstance (T := "StopIteration") (b := true) ⟨o, ho, hc'⟩ isSubtype_stop ?_)
    exact wpAny_pure ⟨rfl, I.turned (t' := s.toks) (fun b o hb q => he' b o hb q) f0 f1 f3 f4 f5⟩
  self := fun A i s Q E st h => let ⟨⟨_, he⟩, _⟩ := st; wpAny_pyIter_enum he h
/-- items in new pairs -/
def enumF : Nat → List PV → List PV
  | _, [] => []
  | i, x :: xs => .tup [.int (i : Nat), x] :: enumF (i + 1) xs
theorem enumF_get : ∀ (xs : List PV) (k i : Nat) (z : PV), (enumF k xs)[i]? = some z → ∃ x, xs[i]? = some x ∧ z = .tup [.int ((k + i : Nat) : Int), x]
  | [], k, i, z, h => by simp [enumF] at h
  | x :: xs, k, 0, z, h => by
    rw [enumF] at h
    simp at h
    exact ⟨x, rfl, by rw [← h]; rfl⟩
  | x :: xs, k, i + 1, z, h => by
    rw [enumF] at h
    simp only [List.getElem?_cons_succ] at h
    obtain ⟨y, e1, e2⟩ := enumF_get xs (k + 1) i z h
    exact ⟨y, by simpa using e1, by rw [e2]; congr 3; omega⟩
theorem enumF_len : ∀ (xs : List PV) (k : Nat), (enumF k xs).length = xs.length
  | [], _ => rfl
  | x :: xs, k => by rw [enumF, List.length_cons, List.length_cons, enumF_len xs]
section
variable {w : World} {K : PySem.W.Frag} {G : Nat → Addr} {vw1 : Vw}
theorem pair_yld {vw' : Vw} (ok : VOk w K G vw') {T : Addr} {x y : PV} {vx vy : V} (n : vw'.H T = none) (rx : RelP w K G vw'.H vw'.Z x vx) (ry : RelP w K G vw'.H vw'.Z y vy) :
    ∃ vw'', vw''.H = upd vw'.H T (.tup [vx, vy]) ∧ Le K vw' vw'' ∧ VOk w K G vw'' ∧ vw''.st = vw'.st ∧ (∀ a, vw''.Z a → vw'.Z a) ∧ RelP w K G vw''.H vw''.Z (.tup [x, y]) (.ref T) := by
  have l : Le K vw' (vw'.grow T (.tup [vx, vy]) False) := Le.grow ok n
  refine ⟨vw'.grow T (.tup [vx, vy]) False, rfl, l, VOk.grow ok n, rfl, fun a h => h.elim id fun h => h.2.elim, ?_⟩
  rw [RelP]
  exact ⟨T, _, rfl, .inl (.inl upd_same), by show 2 ≤ sizeLine; decide, l.ps (RelPs.cons rx (RelPs.cons ry RelPs.nil))⟩
theorem it_enumT {p : Addr} {vs : List V} {xs : List PV} (h : SqT K vw1.H p vs) (r : RelPs w K G vw1.H vw1.Z xs vs) : ItOk w K G vw1 (IteT K p) (enumF 0 xs) where
  go := fun i vw' l ok hi => by
    have hi' : i < vs.length := by rw [enumF_len] at hi; rw [← r.len]; exact hi
    exact ⟨vs, vs[i], l.tu _ _ h, List.getElem?_eq_getElem hi'⟩
  stop := fun i vw' l ok hi => ⟨vs, l.tu _ _ h, by rw [enumF_len] at hi; rw [← r.len]; omega⟩
  yld := fun i vw' x H' l ok y z ez => by
    obtain ⟨T, v0, rfl, hT, rfl, hv⟩ := y
    obtain ⟨x0, e0, rfl⟩ := enumF_get xs 0 i z ez
    obtain ⟨v, e1, r1⟩ := r.get e0
    have := hv vs (l.tu _ _ h)
    rw [e1] at this
    cases this
    exact pair_yld ok hT (by rw [Nat.zero_add]; exact relInt.mpr rfl) (l.p r1)
  held := fun i vw' x H' l ok y _ a ha => by
    obtain ⟨T, v0, rfl, hT, rfl, hv⟩ := y
    exact upd_ne (fun e => ha (by rw [e]; exact hT))
theorem it_enumL {p : Addr} {vs : List V} {xs : List PV} (hz : vw1.Z p) (h : Rd vw1.H p (.lst vs)) (r : RelPs w K G vw1.H vw1.Z xs vs) : ItOk w K G vw1 (Ite K p) (enumF 0 xs) where
  go := fun i vw' l ok hi => by
    have hi' : i < vs.length := by rw [enumF_len] at hi; rw [← r.len]; exact hi
    exact ⟨vs, vs[i], .inl (l.zr _ _ hz h), List.getElem?_eq_getElem hi'⟩
  stop := fun i vw' l ok hi => ⟨vs, .inl (l.zr _ _ hz h), by rw [enumF_len] at hi; rw [← r.len]; omega⟩
  yld := fun i vw' x H' l ok y z ez => by
    obtain ⟨T, v0, rfl, hT, rfl, hv⟩ := y
    obtain ⟨x0, e0, rfl⟩ := enumF_get xs 0 i z ez
    obtain ⟨v, e1, r1⟩ := r.get e0
    have := hv vs (.inl (l.zr _ _ hz h))
    rw [e1] at this
    cases this
    exact pair_yld ok hT (by rw [Nat.zero_add]; exact relInt.mpr rfl) (l.p r1)
  held := fun i vw' x H' l ok y _ a ha => by
    obtain ⟨T, v0, rfl, hT, rfl, hv⟩ := y
    exact upd_ne (fun e => ha (by rw [e]; exact hT))
end
def rEnum (t : RA) : RI := fun env st => (t env st).bind fun xs st1 => match xs with
  | [.p (.tup ys)] => .ok (enumF 0 ys) st1
  | [.p (.lst ys)] => .ok (enumF 0 ys) st1
  | _ => .no
def iEnumA (K : PySem.W.Frag) (ta : TA) : TI := fun σ H R => ta σ H fun vs H1 => ∃ a xs, vs = [.ref a] ∧ ((SqL K H1 a xs ∧ R (Ite K a) H1) ∨ (SqT K H1 a xs ∧ R (IteT K a) H1))
section
variable {X : Cx} {G : Nat → Addr} {E : WE} {e e2 : Expr} {ta : TA} {t : RA} {p pos tpos : Pos} {elts : List Expr} {kk : Nat}
theorem pi_enumA (hg : Gl X "enumerate") (hm : X.mg "enumerate" = none) (ha : PA X [e] ta) (hs : starEach [e] X.env = [(false, eval e X.env)] := by rfl) :
    PI X (.Tuple elts kk tpos) (.Call (.Name "enumerate" p) [e] [] pos) (iEnumA X.K ta) := by
  refine ⟨fun pins s σ H R I h => ?_⟩
  refine Call_ (ld_blt I hg hm boot_enumerate (PyProof.Rows.callWith_type1 (thn (ha.run pos pins s σ H _ I h) fun us s1 ⟨vs, H1, I1, r1, q1⟩ => ?_) hs rfl))
  obtain ⟨a, xs, ex, q1⟩ := q1
  subst ex
  cases r1 with
  | cons r rr =>
    cases rr
    cases r
    have fr : ∀ b, b ∈ [s1.heap.objs.size + 1, s1.heap.objs.size] → FpOk X pins H1 b := fun b hb => by
      have e' : b = s1.heap.objs.size + 1 ∨ b = s1.heap.objs.size := by simpa using hb
      have hle : s1.heap.objs.size ≤ b := by
        rcases e' with z | z
        · rw [z]; exact Nat.le_add_right _ _
        · rw [z]; exact Nat.le_refl _
      exact I1.fpOk hle (I1.hok.fresh hle)
    rcases q1 with ⟨hq, q⟩ | ⟨hq, q⟩
    · obtain ⟨its, rv, p', hz⟩ := I1.list hq
      refine call_enumerate_list p'.isList fun h' he hit hsz hk => wpAny_pyIter_enum he ?_
      have I2 : Inv X pins σ H1 { s1 with heap := h' } := I1.kept (t' := s1.toks) hk
      exact ⟨s1.heap.objs.size + 1, [s1.heap.objs.size + 1, s1.heap.objs.size], _, _, H1, rfl, I2, turn_enum a (s1.heap.objs.size + 1) s1.heap.objs.size, ⟨⟨.none, he⟩, hit, Nat.succ_ne_self _⟩, fr, q⟩
    · obtain ⟨its, rv, p', hz⟩ := I1.tuple hq
      refine call_enum1 (begins_tuple a its.toArray) p' fun h' he hit hsz hk => wpAny_pyIter_enum he ?_
      have I2 : Inv X pins σ H1 { s1 with heap := h' } := I1.kept (t' := s1.toks) hk
      exact ⟨s1.heap.objs.size + 1, [s1.heap.objs.size + 1, s1.heap.objs.size], _, _, H1, rfl, I2, turn_enumT a (s1.heap.objs.size + 1) s1.heap.objs.size, ⟨⟨.none, he⟩, ⟨_, hit, rfl, rfl⟩, Nat.succ_ne_self _⟩, fr, q⟩
theorem pxi_enum (hg : Gl X "enumerate") (hm : X.mg "enumerate" = none) (ha : PXA X G E [e] t) (hs : starEach [e] X.env = [(false, eval e X.env)] := by rfl) : PXI X G E (.Tuple elts kk tpos) (.Call (.Name "enumerate" p) [e] [] pos) (rEnum t) :=
  (pi_enumA hg hm ha hs).weak fun σ H R ⟨vw, env, eH, ok, re, q⟩ => by
    refine ⟨vw, env, eH, ok, re, (GQ.bind q).imp fun vw1 x l1 ok1 q1 vs rs => ?_⟩
    split at q1
    · rename_i ys
      obtain ⟨v, _, rfl, rv, rfl⟩ := rs
      obtain ⟨p, vs, rfl, hp, l, r⟩ := relTup.mp (show RelP X.w X.K G vw1.H vw1.Z (.tup ys) v from rv)
      exact ⟨p, vs, rfl, .inr ⟨hp, q1 vw1 .rfl' ok1 rfl _ _ ⟨vw1, rfl, .rfl', ok1, rfl, it_enumT hp r⟩⟩⟩
    · rename_i ys
      obtain ⟨v, _, rfl, rv, rfl⟩ := rs
      obtain ⟨p, vs, rfl, hz, hp, l, r⟩ := relLst.mp (show RelP X.w X.K G vw1.H vw1.Z (.lst ys) v from rv)
      exact ⟨p, vs, rfl, .inl ⟨.of hp, q1 vw1 .rfl' ok1 rfl _ _ ⟨vw1, rfl, .rfl', ok1, rfl, it_enumL hz (.inl hp) r⟩⟩⟩
    · exact q1.elim
end
end Ev
end S_Ev19
section S_Ev20
namespace Ev
open PySem PySem.Spec PyProof.Rows L2
/-! ### zip of lists and tuples -/
/-- a list (true), a tuple -/
def SqB (b : Bool) (K : PySem.W.Frag) (H : Hp) (a : Addr) (xs : List V) : Prop := match b with
  | true => SqL K H a xs
  | false => SqT K H a xs
def IsItB (b : Bool) (h : Heap) (it a : Addr) (i : Nat) : Prop := match b with
  | true => h.IsListIter it a i
  | false => h.IsTupleIter it a i
def IsSqB (b : Bool) (h : Heap) (a : Addr) (its : Array Value) : Prop := match b with
  | true => h.IsList a its
  | false => h.IsTuple a its
theorem IsItB.at {b : Bool} {h h' : Heap} {it a : Addr} {i : Nat} (x : IsItB b h it a i) (k : ∀ o, h.get? it = some o → h'.get? it = some o) : IsItB b h' it a i := by
  cases b with
  | true => exact Heap.IsListIter.at x k
  | false => exact Heap.IsTupleIter.at x k
theorem IsItB.obj {b : Bool} {h : Heap} {it a : Addr} {i : Nat} (x : IsItB b h it a i) : ∃ o, h.get? it = some o ∧ ∀ v, o.data ≠ .cell v := by
  cases b with
  | true => obtain ⟨o, e, c, d⟩ := x; exact ⟨o, e, fun v q => by rw [d] at q; cases q⟩
  | false => obtain ⟨o, e, c, d⟩ := x; exact ⟨o, e, fun v q => by rw [d] at q; cases q⟩
theorem SqB.inj {X : Cx} {pins : List (Addr × Obj)} {σ : SSt} {H : Hp} {s : Shared} {b : Bool} {a : Addr} {xs ys : List V} (I : Inv X pins σ H s) (h : SqB b X.K H a xs) (h' : SqB b X.K H a ys) : xs = ys := by
  cases b with
  | true => exact I.list_inj h h'
  | false => exact I.tuple_inj h h'
theorem SqB.at {X : Cx} {pins : List (Addr × Obj)} {σ : SSt} {H : Hp} {s : Shared} {b : Bool} {a : Addr} {xs : List V} (I : Inv X pins σ H s) (h : SqB b X.K H a xs) : ∃ its, Vals xs its ∧ IsSqB b s.heap a its.toArray := by
  cases b with
  | true => obtain ⟨its, rv, p, _⟩ := I.list h; exact ⟨its, rv, p.isList⟩
  | false => obtain ⟨its, rv, p, _⟩ := I.tuple h; exact ⟨its, rv, p⟩
theorem drawsB {prog : Program} {w : World} {A : Around} (hh : A.handled = none) (b : Bool) (it l : Addr) (hne : l ≠ it) (items : Array Value) :
    Draws prog w A it [it, l] items.size (fun i v => items[i]? = some v) (fun i h => IsItB b h it l i ∧ IsSqB b h l items) := by
  cases b with
  | true => exact Draws.list hh it l hne items
  | false => exact Draws.tuple hh it l hne items
def begObj (b : Bool) (l : Addr) : Obj := match b with
  | true => { cls := .type "list_iterator", data := .fields #[.ref l, .int 0 0] }
  | false => { cls := .type "tuple_iterator", data := .fields #[.ref l, .int 0 0] }
theorem beginsB (b : Bool) (l : Addr) (items : Array Value) : Begins (.ref l) (begObj b l) fun h => IsSqB b h l items := by
  cases b with
  | true => exact begins_list l items
  | false => exact begins_tuple l items
theorem begObj_at {b : Bool} {l it : Addr} {h : Heap} (e : h.get? it = some (begObj b l)) : IsItB b h it l 0 := by
  cases b with
  | true => exact ⟨_, e, rfl, rfl⟩
  | false => exact ⟨_, e, rfl, rfl⟩
def ItzB (b1 b2 : Bool) (K : PySem.W.Frag) (a b : Addr) : It :=
  ⟨fun i H => ∃ (xs ys : List V) (x y : V), SqB b1 K H a xs ∧ SqB b2 K H b ys ∧ xs[i]? = some x ∧ ys[i]? = some y,
    fun i H v H' => ∃ T x y, v = .ref T ∧ H T = none ∧ H' = upd H T (.tup [x, y]) ∧ (∀ xs, SqB b1 K H a xs → xs[i]? = some x) ∧ ∀ ys, SqB b2 K H b ys → ys[i]? = some y,
    fun i H => ∃ xs ys : List V, SqB b1 K H a xs ∧ SqB b2 K H b ys ∧ i ≤ xs.length ∧ i ≤ ys.length ∧ (i = xs.length ∨ i = ys.length)⟩
theorem turn_zipB {P : Program} {w : World} {K : PySem.W.Frag} {elts : List Expr} {kk : Nat} {tpos : Pos} {b1 b2 : Bool} {a b z TI TO i1 i2 : Addr} (D : ZipSep2 z TI TO i1 i2 [i1, a] [i2, b]) (n1 : a ≠ i1) (n2 : b ≠ i2) :
    Turn P w K (.Tuple elts kk tpos) (ItzB b1 b2 K a b) [z, TI, TO, i1, i2] z (fun i h => IsZip h z TI TO .none ∧ IsPair h TI (.ref i1) (.ref i2) ∧ (∃ x y, IsPair h TO x y) ∧ IsItB b1 h i1 a i ∧ IsItB b2 h i2 b i) where
  mem := by simp
  obj := fun i h st c hc => by
    obtain ⟨hz, hTI, ⟨x, y, hTO⟩, h1, h2⟩ := st
    have e' : c = z ∨ c = TI ∨ c = TO ∨ c = i1 ∨ c = i2 := by simpa using hc
    rcases e' with q | q | q | q | q
    · rw [q]; exact ⟨_, hz, fun v q => nomatch q⟩
    · rw [q]; exact ⟨_, hTI, fun v q => nomatch q⟩
    · rw [q]; exact ⟨_, hTO, fun v q => nomatch q⟩
    · rw [q]; exact h1.obj
    · rw [q]; exact h2.obj
  keep := fun i h h' st k => by
    obtain ⟨hz, hTI, ⟨x, y, hTO⟩, h1, h2⟩ := st
    exact ⟨k z (by simp) _ hz, k TI (by simp) _ hTI, ⟨x, y, k TO (by simp) _ hTO⟩, h1.at fun o q => k i1 (by simp) o q, h2.at fun o q => k i2 (by simp) o q⟩
  item := by
    intro X hP hw hK hc i pins s σ H E I hf st hg
    subst hP hw hK
    obtain ⟨hz, hTI, ⟨x0, y0, hTO⟩, h1, h2⟩ := st
    obtain ⟨xs, ys, x, y, hqx, hqy, hx, hy⟩ := hg
    obtain ⟨its, rv, p⟩ := SqB.at I hqx
    obtain ⟨its2, rv2, p2⟩ := SqB.at I hqy
    obtain ⟨u, hu, ru⟩ := rv.get hx
    obtain ⟨u2, hu2, ru2⟩ := rv2.get hy
    have hzl : z < s.heap.objs.size := Heap.lt_size hz
    have hl1 : i < its.toArray.size := by
      have := (List.getElem?_eq_some_iff.mp hu).1
      simpa using this
    have hl2 : i < its2.toArray.size := by
      have := (List.getElem?_eq_some_iff.mp hu2).1
      simpa using this
    refine wpAny_pyNext_zipD2_item D (drawsB (A := X.A.in1) (I.ok.hd hc) b1 i1 a n1 its.toArray) (drawsB (A := X.A.in1) (I.ok.hd hc) b2 i2 b n2 its2.toArray) hz hTI hTO ⟨h1, p⟩ ⟨h2, p2⟩ hl1 hl2 fun y1 y2 h' tk e1 e2 z' TO' h1' h2' hT hsz hk => ?_
    have ey1 : y1 = u := by
      have q : its.toArray[i]? = some y1 := e1
      rw [show its.toArray[i]? = some u by simpa using hu] at q
      exact (Option.some.inj q).symm
    have ey2 : y2 = u2 := by
      have q : its2.toArray[i]? = some y2 := e2
      rw [show its2.toArray[i]? = some u2 by simpa using hu2] at q
      exact (Option.some.inj q).symm
    subst ey1 ey2
    refine ⟨_, rfl, wpAny_letOwnedTupleGo_zip (s := { s with heap := h', toks := tk }) z' fun h'' z'' sb => ?_⟩
    have hT2 : h''.get? s.heap.objs.size = some { cls := .type "tuple", data := .seq #[y1, y2] } := (sb.2 _ (Nat.ne_of_gt hzl)).trans hT
    have new : ObjOk X.prog X.w (upd H s.heap.objs.size (.tup [x, y])) h'' s.heap.objs.size (.tup [x, y]) :=
      ⟨by show 2 ≤ sizeLine; decide, [y1, y2], .cons ru (.cons ru2 .nil), ⟨_, hT2, rfl, _, rfl⟩⟩
    have I1 : Inv X pins σ (upd H s.heap.objs.size (.tup [x, y])) { s with heap := h'', toks := tk } :=
      I.turnedNew (t' := tk) (ch := [z, TI, TO, i1, i2]) (fun c o hb q => (sb.2 c (fun q' => hb (by simp [q']))).trans (hk c o (fun q' => hb (by simp [q'])) (fun q' => hb (by simp [q'])) (fun q' => hb (by simp [q'])) (fun q' => hb (by simp [q'])) q)) hf (Nat.le_refl _) new
    have zi1 : i1 ≠ z := fun e => D.zf1 (by simp [e])
    have zi2 : i2 ≠ z := fun e => D.zf2 (by simp [e])
    refine ⟨.ref s.heap.objs.size, _, I1, rfl, ⟨_, x, y, rfl, I.hok.fresh (Nat.le_refl _), rfl, fun l hl => by rw [SqB.inj I hl hqx]; exact hx, fun l hl => by rw [SqB.inj I hl hqy]; exact hy⟩, ⟨z'', ?_, ⟨y1, y2, ?_⟩, ?_, ?_⟩, fun c hcm => ?_⟩
    · exact (sb.2 _ D.TIz).trans (hk _ _ D.TIz D.TITO D.TIi1 D.TIi2 hTI)
    · exact (sb.2 _ D.TOz).trans TO'
    · exact h1'.1.at fun o q => (sb.2 _ zi1).trans q
    · exact h2'.1.at fun o q => (sb.2 _ zi2).trans q
    · have hlt : c < s.heap.objs.size := by
        have e' : c = z ∨ c = TI ∨ c = TO ∨ c = i1 ∨ c = i2 := by simpa using hcm
        rcases e' with q | q | q | q | q
        · rw [q]; exact hzl
        · rw [q]; exact Heap.lt_size hTI
        · rw [q]; exact Heap.lt_size hTO
        · rw [q]; obtain ⟨_, e1, _⟩ := h1.obj; exact Heap.lt_size e1
        · rw [q]; obtain ⟨_, e2, _⟩ := h2.obj; exact Heap.lt_size e2
      rw [upd_ne (Nat.ne_of_lt hlt)]
      exact (hf c hcm).1
  done := by
    intro X hP hw hK hc i pins s σ H E I hf st hg
    subst hP hw hK
    obtain ⟨hz, hTI, ⟨x0, y0, hTO⟩, h1, h2⟩ := st
    obtain ⟨xs, ys, hqx, hqy, le1, le2, hend⟩ := hg
    obtain ⟨its, rv, p⟩ := SqB.at I hqx
    obtain ⟨its2, rv2, p2⟩ := SqB.at I hqy
    have l1 := rv.length
    have l2 := rv2.length
    exact wpAny_pyNext_zipD2_end D (drawsB (A := X.A.in1) (I.ok.hd hc) b1 i1 a n1 its.toArray) (drawsB (A := X.A.in1) (I.ok.hd hc) b2 i2 b n2 its2.toArray) hz hTI hTO ⟨h1, p⟩ ⟨h2, p2⟩ (by simp; omega) (by simp; omega) (by simp; omega) fun h' tk hk => ⟨rfl, I.turnedL (t' := tk) (ch := [z, TI, TO, i1, i2]) (fun c o hb q =>
      hk c o (fun q' => hb (by simp [q'])) (fun q' => hb (by simp [q'])) (fun q' => hb (by simp [q'])) (fun q' => hb (by simp [q'])) q) hf⟩
  self := fun A i s Q E st h => wpAny_pyIter_zip st.1 h
def iZipB (K : PySem.W.Frag) (ta : TA) : TI := fun σ H R => ta σ H fun vs H1 => ∃ b1 b2 a b xs ys, vs = [.ref a, .ref b] ∧ SqB b1 K H1 a xs ∧ SqB b2 K H1 b ys ∧ R (ItzB b1 b2 K a b) H1
def zipF : List PV → List PV → List PV
  | x :: xs, y :: ys => .tup [x, y] :: zipF xs ys
  | _, _ => []
theorem zipF_get : ∀ (xs ys : List PV) (i : Nat) (z : PV), (zipF xs ys)[i]? = some z → ∃ x y, xs[i]? = some x ∧ ys[i]? = some y ∧ z = .tup [x, y]
  | [], _, i, z, h => by simp [zipF] at h
  | _ :: _, [], i, z, h => by simp [zipF] at h
  | x :: xs, y :: ys, 0, z, h => by
    simp [zipF] at h
    exact ⟨x, y, rfl, rfl, h.symm⟩
  | x :: xs, y :: ys, i + 1, z, h => by
    simp only [zipF, List.getElem?_cons_succ] at h
    obtain ⟨a, b, e1, e2, e3⟩ := zipF_get xs ys i z h
    exact ⟨a, b, by simpa using e1, by simpa using e2, e3⟩
theorem zipF_len : ∀ (xs ys : List PV), (zipF xs ys).length = min xs.length ys.length
  | [], _ => by simp [zipF]
  | _ :: _, [] => by simp [zipF]
  | x :: xs, y :: ys => by rw [zipF, List.length_cons, zipF_len xs ys, List.length_cons, List.length_cons]; omega
def seqP : PV → Option (Bool × List PV)
  | .lst xs => some (true, xs)
  | .lsf xs => some (true, xs)
  | .tup xs => some (false, xs)
  | _ => none
section
variable {w : World} {K : PySem.W.Frag} {G : Nat → Addr} {vw vw1 : Vw}
/-- a list or tuple that nothing changes -/
def SqZ (b : Bool) (K : PySem.W.Frag) (vw : Vw) (a : Addr) (xs : List V) : Prop := SqB b K vw.H a xs ∧ (b = true → Sf K vw.H vw.Z a xs)
theorem SqZ.mono {b : Bool} {a : Addr} {xs : List V} (l : Lz K vw vw1) (h : SqZ b K vw a xs) : SqZ b K vw1 a xs := by
  cases b with
  | true => exact ⟨((h.2 rfl).mono l).sq, fun _ => (h.2 rfl).mono l⟩
  | false => exact ⟨l.tu _ _ h.1, fun e => nomatch e⟩
theorem seqP_rel {x : PV} {v : V} {b : Bool} {xs : List PV} (r : RelP w K G vw.H vw.Z x v) (h : seqP x = some (b, xs)) : ∃ p vs, v = .ref p ∧ RelPs w K G vw.H vw.Z xs vs ∧ SqZ b K vw p vs := by
  cases x <;> try (cases h; done)
  · cases h
    obtain ⟨p, vs, rfl, hp, l, r⟩ := relTup.mp r
    exact ⟨p, vs, rfl, r, hp, fun e => nomatch e⟩
  · cases h
    obtain ⟨p, vs, rfl, hz, hp, l, r⟩ := relLst.mp r
    exact ⟨p, vs, rfl, r, .of hp, fun _ => .inl ⟨hz, .inl hp⟩⟩
  · cases h
    obtain ⟨p, vs, rfl, hp, l, r⟩ := relLsf.mp r
    exact ⟨p, vs, rfl, r, hp.sq, fun _ => hp⟩
theorem it_zipB {b1 b2 : Bool} {a b : Addr} {vs us : List V} {xs ys : List PV} (h1 : SqZ b1 K vw1 a vs) (h2 : SqZ b2 K vw1 b us) (r1 : RelPs w K G vw1.H vw1.Z xs vs) (r2 : RelPs w K G vw1.H vw1.Z ys us) :
    ItOk w K G vw1 (ItzB b1 b2 K a b) (zipF xs ys) where
  go := fun i vw' l ok hi => by
    rw [zipF_len] at hi
    have i1 : i < vs.length := by rw [← r1.len]; omega
    have i2 : i < us.length := by rw [← r2.len]; omega
    exact ⟨vs, us, vs[i], us[i], (h1.mono l).1, (h2.mono l).1, List.getElem?_eq_getElem i1, List.getElem?_eq_getElem i2⟩
  stop := fun i vw' l ok hi => by
    rw [zipF_len] at hi
    have i1 := r1.len
    have i2 := r2.len
    exact ⟨vs, us, (h1.mono l).1, (h2.mono l).1, by omega, by omega, by omega⟩
  yld := fun i vw' x H' l ok y z ez => by
    obtain ⟨T, v1, v2, rfl, hT, rfl, hv1, hv2⟩ := y
    obtain ⟨x1, x2, e1, e2, rfl⟩ := zipF_get xs ys i z ez
    obtain ⟨w1, f1, q1⟩ := r1.get e1
    obtain ⟨w2, f2, q2⟩ := r2.get e2
    have k1 := hv1 vs (h1.mono l).1
    have k2 := hv2 us (h2.mono l).1
    rw [f1] at k1
    rw [f2] at k2
    cases k1
    cases k2
    exact pair_yld ok hT (l.p q1) (l.p q2)
  held := fun i vw' x H' l ok y _ a ha => by
    obtain ⟨T, v1, v2, rfl, hT, rfl, hv1, hv2⟩ := y
    exact upd_ne (fun e => ha (by rw [e]; exact hT))
end
def rZip (t : RA) : RI := fun env st => (t env st).bind fun xs st1 => match xs with
  | [.p x, .p y] => (match seqP x, seqP y with
    | some (_, xs), some (_, ys) => .ok (zipF xs ys) st1
    | _, _ => .no)
  | _ => .no
section
variable {X : Cx} {G : Nat → Addr} {E : WE} {e e2 : Expr} {ta : TA} {t : RA} {p pos tpos : Pos} {elts : List Expr} {kk : Nat}
theorem IsSqB.lt {b : Bool} {h : Heap} {a : Addr} {its : Array Value} (x : IsSqB b h a its) : a < h.objs.size := by
  cases b with
  | true => obtain ⟨_, e, _⟩ := x; exact Heap.lt_size e
  | false => obtain ⟨_, e, _⟩ := x; exact Heap.lt_size e
theorem pi_zipB (hg : Gl X "zip") (hm : X.mg "zip" = none) (ha : PA X [e, e2] ta)
    (hs : starEach [e, e2] X.env = (false, eval e X.env) :: starEach [e2] X.env := by rfl) (hpl : (backTo pos (starEach [e2] X.env)).any (·.1) = false := by rfl) :
    PI X (.Tuple elts kk tpos) (.Call (.Name "zip" p) [e, e2] [] pos) (iZipB X.K ta) := by
  refine ⟨fun pins s σ H R I h => ?_⟩
  refine Call_ (ld_blt I hg hm PyProof.Rows.boot_zip (PyProof.Rows.callWith_type1 (thn (ha.run pos pins s σ H _ I h) fun us s1 ⟨vs, H1, I1, r1, q1⟩ => ?_) hs hpl))
  obtain ⟨b1, b2, a, b, xs, ys, ex, hqx, hqy, q⟩ := q1
  subst ex
  cases r1 with
  | cons r rr =>
    cases rr with
    | cons r' rr =>
      cases rr
      cases r
      cases r'
      have fr : ∀ c, c ∈ [s1.heap.objs.size + 4, s1.heap.objs.size + 2, s1.heap.objs.size + 3, s1.heap.objs.size, s1.heap.objs.size + 1] → FpOk X pins H1 c := fun c hcm => by
        have e' : c = s1.heap.objs.size + 4 ∨ c = s1.heap.objs.size + 2 ∨ c = s1.heap.objs.size + 3 ∨ c = s1.heap.objs.size ∨ c = s1.heap.objs.size + 1 := by simpa using hcm
        have hle : s1.heap.objs.size ≤ c := by
          rcases e' with z | z | z | z | z
          · rw [z]; exact Nat.le_add_right _ _
          · rw [z]; exact Nat.le_add_right _ _
          · rw [z]; exact Nat.le_add_right _ _
          · rw [z]; exact Nat.le_refl _
          · rw [z]; exact Nat.le_add_right _ _
        exact I1.fpOk hle (I1.hok.fresh hle)
      obtain ⟨its, rv, p1⟩ := SqB.at I1 hqx
      obtain ⟨its2, rv2, p2⟩ := SqB.at I1 hqy
      have la := p1.lt
      have lb := p2.lt
      refine zip_begins2 (beginsB b1 a its.toArray) (beginsB b2 b its2.toArray) p1 p2 fun h' hz hTI hTO h1 h2 hsz hk => wpAny_pyIter_zip hz ?_
      have I2 : Inv X pins σ H1 { s1 with heap := h' } := I1.kept (t' := s1.toks) hk
      exact ⟨s1.heap.objs.size + 4, [s1.heap.objs.size + 4, s1.heap.objs.size + 2, s1.heap.objs.size + 3, s1.heap.objs.size, s1.heap.objs.size + 1], _, _, H1, rfl, I2,
        turn_zipB (zip_sep2 (N := s1.heap.objs.size) (fp1 := [a]) (fp2 := [b]) (fun c hc => by rw [List.mem_singleton.mp hc]; exact la) (fun c hc => by rw [List.mem_singleton.mp hc]; exact lb)) (Nat.ne_of_lt la) (Nat.ne_of_lt (Nat.lt_succ_of_lt lb)),
        ⟨hz, hTI, ⟨_, _, hTO⟩, begObj_at h1, begObj_at h2⟩, fr, q⟩
theorem pxi_zip (hg : Gl X "zip") (hm : X.mg "zip" = none) (ha : PXA X G E [e, e2] t)
    (hs : starEach [e, e2] X.env = (false, eval e X.env) :: starEach [e2] X.env := by rfl) (hpl : (backTo pos (starEach [e2] X.env)).any (·.1) = false := by rfl) :
    PXI X G E (.Tuple elts kk tpos) (.Call (.Name "zip" p) [e, e2] [] pos) (rZip t) :=
  (pi_zipB hg hm ha hs hpl).weak fun σ H R ⟨vw, env, eH, ok, re, q⟩ => by
    refine ⟨vw, env, eH, ok, re, (GQ.bind q).imp fun vw1 x l1 ok1 q1 vs rs => ?_⟩
    split at q1
    · rename_i x y
      obtain ⟨v, _, rfl, rv, v2, _, rfl, rv2, rfl⟩ := rs
      split at q1
      · rename_i b1 xs b2 ys e1 e2
        obtain ⟨p1, vs1, rfl, r1, h1⟩ := seqP_rel (show RelP X.w X.K G vw1.H vw1.Z x v from rv) e1
        obtain ⟨p2, vs2, rfl, r2, h2⟩ := seqP_rel (show RelP X.w X.K G vw1.H vw1.Z y v2 from rv2) e2
        exact ⟨b1, b2, p1, p2, vs1, vs2, rfl, h1.1, h2.1, q1 vw1 .rfl' ok1 rfl _ _ ⟨vw1, rfl, .rfl', ok1, rfl, it_zipB h1 h2 r1 r2⟩⟩
      · exact q1.elim
    · exact q1.elim
end
end Ev
end S_Ev20
section S_Ev21
namespace Ev
open PySem PySem.Spec PyProof.Rows L2
/-! ### new dicts -/
theorem dn_empty {P : Program} {w : World} {H' : Hp} (h : Heap) (hb : sysModules < h.objs.size) : ObjOk P w H' (h.push { cls := .type "dict", data := .dict #[] }) h.objs.size (DN w h.objs.size []) :=
  dn_new (ys := []) (by rw [beq_eq_false_iff_ne]; exact Nat.ne_of_gt hb) (Nat.zero_le _) .nil (Heap.DictOfH.new h)
def newO (w : World) (nk : Bool) (p : Addr) : HO := match nk with
  | true => DN w p []
  | false => .dK []
theorem newO_ok {w : World} {K : PySem.W.Frag} {G : Nat → Addr} {vw : Vw} {nk : Bool} {p : Addr} (h : vw.H p = some (newO w nk p)) : OkOb w K G vw p (.dct nk false [] []) := by
  cases nk with
  | true => exact ⟨[], h, by rw [PV.toKs]; rfl, fun x hx => absurd hx (by simp), RelPs.nil, RelPs.nil⟩
  | false => exact ⟨[], h, rfl, RelPs.nil⟩
section
variable {X : Cx} {G : Nat → Addr} {E : WE} {pos : Pos}
theorem pe_dnewA (nk : Bool) : PE X (.Dict [] [] pos) (fun _ H Q => ∀ p, H p = none → Q (.ref p) (upd H p (newO X.w nk p))) := ⟨fun pins s σ H Q I h => by
  cases nk with
  | false => exact wpAny_Dict_empty ⟨.ref s.heap.objs.size, _, I.laid (a := s.heap.objs.size) (o := .dK []) (t' := s.toks) (fun _ _ q => Heap.get?_push_of_some _ q) (Nat.le_refl _) (dk_empty s.heap I.big), rfl, h _ (I.hok.fresh (Nat.le_refl _))⟩
  | true => exact wpAny_Dict_empty ⟨.ref s.heap.objs.size, _, I.laid (a := s.heap.objs.size) (o := DN X.w s.heap.objs.size []) (t' := s.toks) (fun _ _ q => Heap.get?_push_of_some _ q) (Nat.le_refl _) (dn_empty s.heap I.big), rfl, h _ (I.hok.fresh (Nat.le_refl _))⟩⟩
def rDict0 (nk : Bool) : RX := fun _ st => .ok (.ref st.length) (st ++ [some (.dct nk false [] [])])
theorem vvNew {w : World} {K : PySem.W.Frag} {vw : Vw} {p : Addr} {o : HO} {ob : Ob} : RelVV w K G (vw.alloc p o ob) (.ref vw.st.length) (.ref p) :=
  ⟨by show _ < (vw.st ++ [_]).length; simp, by show V.ref p = .ref (if vw.st.length = vw.st.length then p else _); rw [if_pos rfl]⟩
theorem px_dict0 (nk : Bool) : PX X G E (.Dict [] [] pos) (rDict0 nk) := (pe_dnewA nk).weak fun σ H Q ⟨vw, env, eH, ok, re, q⟩ => by
  subst eH
  intro p hp
  exact q (vw.alloc p (newO X.w nk p) (.dct nk false [] [])) (Le.alloc ok hp) (VOk.alloc ok hp (newO_ok upd_same)) rfl _ vvNew
/-- a list as an object of the store -/
theorem px_lstM {es : List Expr} {t : RA} (h : PXA X G E es t) : PX X G E (.List es pos) (rLstM t) := (pe_lst h).weak fun σ H Q ⟨vw, env, eH, ok, re, q⟩ => by
  refine ⟨vw, env, eH, ok, re, (GQ.bind q).imp fun vw1 x l1 ok1 q1 vs rs => ?_⟩
  split at q1
  · rename_i ys ey
    split at q1
    · rename_i hl
      have r := toPs_rel rs ey
      have hz : vs.length ≤ sizeLine := by rw [sizeLine_eq, ← r.len]; exact hl
      refine ⟨hz, fun p hp => ?_⟩
      have l := Le.alloc (K := X.K) (o := .lst vs) (ob := .lst false ys) ok1 hp
      exact q1 (vw1.alloc p (.lst vs) (.lst false ys)) l (VOk.alloc ok1 hp ⟨vs, upd_same, hz, l.ps r⟩) rfl _ vvNew
    · exact q1.elim
  · exact q1.elim
/-! ### {k: v} -/
/-- one pair; nothing is raised in it -/
def rDict1 (nk : Bool) (rk rv : RX) : RX := fun env st => (rk env st).nox.bind fun k st1 => (rv env st1).nox.bind fun x st2 => match k, x with
  | .p k, .p x => (match dPut nk [] [] k x with
    | some r => .ok (.ref st2.length) (st2 ++ [some (.dct nk false r.1 r.2)])
    | none => .no)
  | _, _ => .no
theorem pe_disp1N {ke ve : Expr} {rk rv : RX} (hu : X.A.units + 65 < cLine) (hk : PX X G noE ke rk) (hv : PX X G noE ve rv) : PX X G E (.Dict [some ke] [ve] pos) (rDict1 true rk rv) := by
  refine ⟨fun pins s σ H Q I ⟨vw, env, eH, ok, re, q⟩ => ?_⟩
  subst eH
  have hn := I.hok.fresh (Nat.le_refl s.heap.objs.size)
  have I1 := I.laid (a := s.heap.objs.size) (o := DN X.w s.heap.objs.size []) (h' := s.heap.push { cls := .type "dict", data := .dict #[] }) (t' := s.toks) (fun _ _ q => Heap.get?_push_of_some _ q) (Nat.le_refl _) (dn_empty s.heap I.big)
  obtain ⟨l1, ok1, d1⟩ := newApart (o := DN X.w s.heap.objs.size []) ok hn
  generalize hD : s.heap.objs.size = D at *
  have P : PPs X pos [some ke] [ve] _ := pps_cons hk hv pps_nil
  have reH : RepE X.w X.K G ((vw.grow D (DN X.w D []) False).hold D) env σ := by
    have := re.mono l1
    exact ⟨this.1, fun i x h => let ⟨v, a, b⟩ := this.2 i x h; ⟨v, a, relVV_hold.mpr b⟩⟩
  have pairs : wpAny (model X.prog X.w) X.A (evalPairs (pairTrees [some ke] [ve] X.env pos)) (fun vs s' => ∃ ps H', Inv X pins σ H' s' ∧ L2.VV ps vs ∧ ∃ vw2 k x j b v2 r2, H' = vw2.H ∧ Le X.K vw vw2 ∧ VOk X.w X.K G vw2 ∧ Apart vw2 D ∧ vw2.H D = some (DN X.w D []) ∧ ps = [(V.ref b, v2)] ∧
      RelP X.w X.K G vw2.H vw2.Z k (.ref b) ∧ RelP X.w X.K G vw2.H vw2.Z x v2 ∧ k.toK = some j ∧ j.depth ≤ 8 ∧ (∃ ts, k = .tup ts) ∧ r2 = ([k], [x]) ∧
      GQ X.w X.K G vw2 (fun vw' => E vw' env) (.ok (.ref vw2.st.length) (vw2.st ++ [some (.dct true false [k] [x])]) : Res VV) fun vw' x => ∀ v, RelVV X.w X.K G vw' x v → Q v vw'.H) X.xe { s with heap := s.heap.push { cls := .type "dict", data := .dict #[] } } := by
    refine P.run pins _ σ _ _ I1 ?_
    refine ⟨(vw.grow D (DN X.w D []) False).hold D, env, rfl, ok1.hold d1, reH, ?_⟩
    unfold rDict1 at q
    show GQ X.w X.K G _ _ (rk env vw.st) _
    generalize rk env vw.st = r1 at q
    cases r1 with
    | ex c us st => exact q.elim
    | no => exact q.elim
    | ok k st1 =>
      intro vw2 l2 ok2 es2 vk rk'
      refine ⟨vw2, env, rfl, ok2, reH.mono l2, ?_⟩
      have q : GQ X.w X.K G vw (fun vw' => E vw' env) ((rv env st1).nox.bind fun x st2 => match k, x with
        | .p k, .p x => (match dPut true [] [] k x with
          | some r => .ok (.ref st2.length) (st2 ++ [some (.dct true false r.1 r.2)])
          | none => .no)
        | _, _ => .no) (fun vw' x => ∀ v, RelVV X.w X.K G vw' x v → Q v vw'.H) := q
      rw [← es2] at q
      generalize rv env vw2.st = r2 at q
      cases r2 with
      | ex c us st => exact q.elim
      | no => exact q.elim
      | ok x st2 =>
        intro vw3 l3 ok3 es3 vx rx
        have l23 := l2.trans l3
        have o3 := VOk.unhold l23 ok3
        obtain ⟨d3, e3⟩ := d1.still l23 ok3
        have ll : Le X.K vw (vw3.unhold vw.F) := l1.trans (Le.unhold l23)
        cases k with
        | ref n => exact q.elim
        | p k =>
          cases x with
          | ref n => exact q.elim
          | p x =>
            have q : GQ X.w X.K G vw (fun vw' => E vw' env) (match dPut true [] [] k x with
              | some r => (.ok (.ref st2.length) (st2 ++ [some (.dct true false r.1 r.2)]) : Res VV)
              | none => .no) (fun vw' x => ∀ v, RelVV X.w X.K G vw' x v → Q v vw'.H) := q
            unfold dPut at q
            cases k with
            | tup ts =>
              dsimp only at q
              cases ej : PV.toK (.tup ts) with
              | none => rw [ej] at q; exact q.elim
              | some j =>
                rw [ej] at q
                dsimp only at q
                split at q
                · rename_i r hr
                  split at hr
                  · rename_i hj
                    cases hr
                    have rk2 : RelP X.w X.K G vw3.H vw3.Z (.tup ts) vk := l3.p rk'
                    obtain ⟨b, ws, rfl, _⟩ := relTup.mp rk2
                    refine ⟨vw3.unhold vw.F, .tup ts, x, j, b, vx, _, rfl, ll, o3, d3, by show vw3.H D = _; rw [e3]; exact upd_same, rfl, rk2, rx, ej, hj.1, ⟨ts, rfl⟩, rfl, ?_⟩
                    show GQ X.w X.K G (vw3.unhold vw.F) _ (.ok (VV.ref vw3.st.length) (vw3.st ++ [some (.dct true false [.tup ts] [x])]) : Res VV) _
                    rw [es3]
                    exact GQ.back ll q
                  · cases hr
                · exact q.elim
            | _ => exact q.elim
  rw [arm_eval_Dict, zip_pairTrees [some ke] [ve] X.env pos rfl rfl, dictDisplay_pairs _ (by simp [pairTrees]) (by simp [pairTrees])]
  refine wpAny_bind (wpAny_standAt (wpAny_bind (wpAny_subDictH (knd := nestedKind X.prog X.w) (Q := fun d s' => wpAny (model X.prog X.w) X.A (pure (Value.ref d)) (EP X pins σ Q) X.xe s') (show X.A.units + 8 < cLine by omega) (by simp [pairTrees]) ?_)))
  rw [hD]
  refine thn pairs fun vs s' ⟨ps, H', I', rel, vw2, k, x, j, b, v2, r2, eH2, ll, o2, d2, hD2, eps, rk2, rx2, ej, hj, ⟨ts, ets⟩, _, q2⟩ => ?_
  subst eH2 eps ets
  cases rel with
  | @cons a0 b0 as bs h t =>
    cases t
    obtain ⟨u1, u2⟩ := b0
    obtain ⟨ru1, ru2⟩ := h
    obtain rfl : u1 = .ref b := ru1
    obtain ⟨g1, g2, ys, g3, g4⟩ := dn_at (G := G) (Z := vw2.Z) (ks := []) I' (.inl hD2) (by rw [PV.toKs]; rfl) (fun x hx => absurd hx (by simp)) RelPs.nil
    cases g3
    refine ⟨[(j, b, u2)], ⟨rfl, rfl, ⟨RelP.nk I' _ _ _ _ rk2 rfl ej, hj⟩, trivial⟩, g4, fun h' tk dd' hs => wpAny_pure ?_⟩
    have hx : XV [(j, b, v2)] [(j, b, u2)] := .cons ⟨rfl, rfl, ru2⟩ .nil
    have I2 := d_write (t' := tk) (ob := DN X.w D [(j, b, v2)]) I' (by rw [hD2]; exact True.intro) hs (let ⟨o, _, _, ho, _⟩ := dd'; ⟨o, ho⟩) (dn_new g1 (by show 1 ≤ sizeLine; decide) hx dd')
    have lp := Le.put (K := X.K) (o := DN X.w D [(j, b, v2)]) d2 hD2 rfl
    have op := VOk.put (o := DN X.w D [(j, b, v2)]) o2 d2 hD2 rfl
    have dp := d2.put (o := DN X.w D [(j, b, v2)])
    refine ⟨.ref D, upd vw2.H D (DN X.w D [(j, b, v2)]), I2, rfl, ?_⟩
    refine q2 ((vw2.put D (DN X.w D [(j, b, v2)])).adopt D (.dct true false [.tup ts] [x])) (lp.trans Le.adopt) (VOk.adopt op dp ⟨[(j, b, v2)], upd_same, ?_, fun y hy => ?_, RelPs.cons (lp.p rk2) RelPs.nil, RelPs.cons (lp.p rx2) RelPs.nil⟩) rfl _ ?_
    · rw [PV.toKs, ej, PV.toKs]; rfl
    · rw [List.mem_singleton.mp hy]; exact hj
    · exact ⟨by show _ < ((vw2.put D _).st ++ [_]).length; simp [Vw.put], congrArg V.ref (if_pos rfl).symm⟩
end
end Ev
end S_Ev21
section S_Ev22
namespace Ev
open PySem PySem.Spec PyProof.Rows L2
/-! ### {k: v for ..}, nested keys -/
section
variable {X : Cx}
/-- one pair is stored; what is asked of the key k: it is the value at b -/
theorem d_dictSetN {G : Nat → Addr} {Z : Addr → Prop} {pins : List (Addr × Obj)} {σ : SSt} {H : Hp} {s : Shared} {E : Value → Shared → Prop} {D b : Addr} {xs : List (NestedKey × Addr × V)} {ks : List PV} {k : PV} {j : NestedKey} {v : V} {r : Value} {Q : Unit → Shared → Prop} (hu : X.A.units + 65 < cLine) (I : Inv X pins σ H s) (hD : H D = some (DN X.w D xs))
    (h2 : PV.toKs ks = some (xs.map (·.1))) (h3 : ∀ x ∈ xs, x.1.depth ≤ 8) (h4 : RelPs X.w X.K G H Z ks (xs.map fun x => V.ref x.2.1)) (hz : xs.length < sizeLine) (rk : RelP X.w X.K G H Z k (.ref b)) (ej : k.toK = some j) (hj : j.depth ≤ 8)
    (rv : RelV v r) (h : ∀ s', Inv X pins σ (upd H D (DN X.w D (xPut xs j b v))) s' → Q () s') : wpAny (model X.prog X.w) X.A (dictSet D (.ref b) r) Q E s := by
  obtain ⟨g1, g2, ys, g3, g4⟩ := dn_at I (.inl hD) h2 h3 h4
  refine wpAny_dictSet_heap (knd := nestedKind X.prog X.w) (show X.A.units + 8 < cLine by omega) ⟨RelP.nk I _ _ _ _ rk rfl ej, hj⟩ g4 (fun h' dd' hs => h _ ?_) (by rw [← Paired.length g3]; omega)
  exact d_write I (by rw [hD]; exact True.intro) hs (let ⟨o, _, _, ho, _⟩ := dd'; ⟨o, ho⟩) (dn_new g1 (by have := xPut_len (xs := xs) (j := j) (a := b) (v := v); omega) (g3.put rv) dd')
/-- {k: v for target in iter if ..}, keys nested tuples: D the new dict -/
def tDcN (w : World) (K : PySem.W.Frag) (wi : TI) (g : TG) (tt : TT) (tk tv : TE) (vs : List Nat) : TE := fun σ H Q => wi σ H fun J H1 => ∀ D, H1 D = none → ∃ W : Nat → Nat → Hp → Prop, (∃ m, W 0 m (upd H1 D (DN w D []))) ∧ ∀ i m H, W i m H →
  (J.stop i H ∧ Q (.ref D) H) ∨ (J.go i H ∧ ∃ Nx : Hp → Prop, (∀ H', Nx H' → ∃ m', m' < m ∧ W (i + 1) m' H') ∧ ∀ x H', J.yld i H x H' → g x (L2.wipe σ vs) H' fun σ2 H2 => L2.wipe σ2 vs = L2.wipe σ vs ∧ tt σ2 H2 fun b H3 =>
    if b = true then tk σ2 H3 fun y H4 => tv σ2 H4 fun z H5 => ∃ (G : Nat → Addr) (Z : Addr → Prop) (xs : List (NestedKey × Addr × V)) (ks : List PV) (k : PV) (j : NestedKey) (bb : Addr), y = .ref bb ∧ H5 D = some (DN w D xs) ∧ PV.toKs ks = some (xs.map (·.1)) ∧ (∀ x ∈ xs, x.1.depth ≤ 8) ∧
      RelPs w K G H5 Z ks (xs.map fun x => V.ref x.2.1) ∧ xs.length < sizeLine ∧ RelP w K G H5 Z k (.ref bb) ∧ k.toK = some j ∧ j.depth ≤ 8 ∧ Nx (upd H5 D (DN w D (xPut xs j bb z))) else Nx H3)
theorem dcn_core {pins : List (Addr × Obj)} {s : Shared} {σ : SSt} {H : Hp} {Q : VK} {kx vx tg iter : Expr} {ifs : List Expr} {scope : Scope} {own : List (Str × Nat)} {pos pos' : Pos} {wi : TI} {g : TG} {tt : TT} {tk tv : TE} {use : Option (Value → Sem Unit)} {Qf : Value → Shared → Prop}
    (hu : X.A.units + 65 < cLine) (hc : X.calm = true) (hN : X.N.Nodup) (I : Inv X pins σ H s) (hi : PI X tg iter wi) (ok : BlkOk X.N X.env.scope scope own)
    (hg : ∀ (s : Shared) (H : Hp) (C : Addr) (cl : List (Str × Addr)) (fp : List Addr), PG (X.blk s H scope (compEnvC scope cl C X.env) fp) tg g) (ht : ∀ (s : Shared) (H : Hp) (C : Addr) (cl : List (Str × Addr)) (fp : List Addr), PTs (X.blk s H scope (compEnvC scope cl C X.env) fp) ifs tt)
    (hk : ∀ (s : Shared) (H : Hp) (C : Addr) (cl : List (Str × Addr)) (fp : List Addr), PE (X.blk s H scope (compEnvC scope cl C X.env) fp) kx tk)
    (he : ∀ (s : Shared) (H : Hp) (C : Addr) (cl : List (Str × Addr)) (fp : List Addr), PE (X.blk s H scope (compEnvC scope cl C X.env) fp) vx tv) (hs : ∀ x, foldedSetIterable iter X.env x = pure x)
    (h : tDcN X.w X.K wi g tt tk tv (own.map (·.2)) σ H Q)
    (hRR : ∀ D C s' m H', Inv X pins σ H' s' → Q (.ref D) H' → s'.heap.Ns C m → FpOk X pins H' C → compPost (model X.prog X.w) X.A X.xe use Qf (.ref D) C (.ok .next) s') :
    wpAny (model X.prog X.w) X.A (comprehension (.DictComp kx vx [⟨tg, iter, ifs, 0⟩] scope pos) scope X.env pos' newDict false (eval iter X.env) use) Qf X.xe s := by
  have hfree : ∀ y ∈ scope.names, y.2 = .free → ∃ c, X.env.cells.lookup y.1 = some c := fun y hy e => (ok.free y hy e).elim (fun k => I.ok.has _ (.inl k)) fun k => I.ok.has _ (.inr k)
  refine wpAny_comprehension_free (use := use) rfl hs (closure_ok hfree) ok.kind (fun y hy e => by rw [ok.uniq y hy, e])
    (thn (hi.run pins s σ H _ I h) fun xv s1 hx => thn hx fun itv s2 h2 => ?_)
  obtain ⟨it, fp, tn, J, H2, rfl, I2, T, st2, f2, q⟩ := h2
  refine wpAny_newObj_type (newEnv_comp ?_)
  have hDn : H2 s2.heap.objs.size = none := I2.hok.fresh (Nat.le_refl _)
  have lay := dn_empty (P := X.prog) (w := X.w) (H' := upd H2 s2.heap.objs.size (DN X.w s2.heap.objs.size [])) s2.heap I2.big
  generalize hD : s2.heap.objs.size = D at hDn lay ⊢
  obtain ⟨W, ⟨m0, w0⟩, turn⟩ := q D hDn
  generalize hs3 : ({ s2 with heap := s2.heap.push { cls := .type "dict", data := .dict #[] } } : Shared) = s3
  have I3 : Inv X pins σ (upd H2 D (DN X.w D [])) s3 := by
    rw [← hs3]
    exact I2.laid (t' := s2.toks) (fun b o e => Heap.get?_push_of_some _ e) (Nat.le_of_eq hD) lay
  have h3 : s3.heap = s2.heap.push { cls := .type "dict", data := .dict #[] } := by rw [← hs3]
  have f3 : ∀ b ∈ fp, FpOk X pins (upd H2 D (DN X.w D [])) b ∧ b < s3.heap.objs.size := fun b hb => by
    have hlt : b < s2.heap.objs.size := by obtain ⟨o, e, _⟩ := T.obj _ _ st2 b hb; exact Heap.lt_size e
    exact ⟨⟨by rw [upd_ne (by rw [← hD]; exact Nat.ne_of_lt hlt)]; exact (f2 b hb).1, (f2 b hb).2⟩, by rw [h3, Heap.size_push]; exact Nat.lt_succ_of_lt hlt⟩
  have st3 : tn 0 s3.heap := T.keep _ _ _ st2 fun b _ o e => by rw [h3]; exact Heap.get?_push_of_some _ e
  have I4 := block_start I3 ok hN f3
  generalize hcl : cellsFrom (s3.heap.objs.size + 1) scope.names (cloFrom X.env.cells scope.names []) = cl at I4
  have pg := hg s3 (upd H2 D (DN X.w D [])) s3.heap.objs.size cl fp
  have pt := ht s3 (upd H2 D (DN X.w D [])) s3.heap.objs.size cl fp
  have pk := hk s3 (upd H2 D (DN X.w D [])) s3.heap.objs.size cl fp
  have pe := he s3 (upd H2 D (DN X.w D [])) s3.heap.objs.size cl fp
  show codeAny _ _ (.compStart (.DictComp kx vx [⟨tg, iter, ifs, 0⟩] scope pos) 0 (.ref it) (.ref D) (compEnvC scope cl s3.heap.objs.size X.env)) (compPost (model X.prog X.w) X.A X.xe use Qf (.ref D) s3.heap.objs.size) { s3 with heap := pushCells (s3.heap.push { cls := .type "dict", data := .dict #[] }) scope.names }
  have nfp : ∀ b ∈ fp, (upd H2 D (DN X.w D [])) b = none := fun b hb => (f3 b hb).1.1
  have cL : (compEnvC scope cl s3.heap.objs.size X.env).locals = s3.heap.objs.size := rfl
  generalize compEnvC scope cl s3.heap.objs.size X.env = ce at I4 pg pt pk pe cL ⊢
  generalize upd H2 D (DN X.w D []) = H3 at I3 I4 pg pt pk pe w0 nfp f3
  generalize hs4 : ({ s3 with heap := pushCells (s3.heap.push { cls := .type "dict", data := .dict #[] }) scope.names } : Shared) = s4 at I4 ⊢
  have st4 : tn 0 s4.heap := T.keep _ _ _ st3 fun b _ o e => by rw [← hs4]; exact pushCells_keeps _ _ _ _ (Heap.get?_push_of_some _ e)
  have stat : ∀ {σ' : SSt} {H' : Hp} {s' : Shared}, Inv (X.blk s3 H3 scope ce fp) [] σ' H' s' → (∀ b ∈ fp, H' b = none) → ∀ b ∈ fp, FpOk (X.blk s3 H3 scope ce fp) [] H' b := fun {σ' H' s'} I' hn b hb =>
    ⟨hn b hb, (I'.ok.exf b hb).1, I'.ok.exfs b hb, .inl hb, fun x c e => (I'.ok.exf b hb).2 x c e, fun p hp => absurd (show p ∈ ([] : List (Addr × Obj)) ++ [] from hp) (by simp)⟩
  have loop : codeAny (model X.prog X.w) X.A (.compLoop (.DictComp kx vx [⟨tg, iter, ifs, 0⟩] scope pos) 0 (.ref it) (.ref D) ce) (compPost (model X.prog X.w) X.A X.xe use Qf (.ref D) s3.heap.objs.size) s4 := by
    refine compLoop_anyD (fun n s' => ∃ i H', Inv (X.blk s3 H3 scope ce fp) [] (L2.wipe σ (own.map (·.2))) H' s' ∧ tn i s'.heap ∧ (∀ b ∈ fp, H' b = none) ∧ W i n H') ?_ m0 ⟨0, H3, I4, st4, nfp, w0⟩
    rintro n s5 ⟨i, H5, I5, st5, n5, w5⟩
    rcases turn i n H5 w5 with ⟨stop, qq⟩ | ⟨go, Nx, hNx, step⟩
    · refine thnF (T.done (X.blk s3 H3 scope ce fp) rfl rfl rfl hc i [] s5 _ H5 (fun _ _ => False) I5 (stat I5 n5) st5 stop) fun r s6 ⟨hr, I6⟩ => ?_
      subst hr
      have I7 : Inv X pins σ H5 s6 := I3.call' (ch := fp) I6.os I6.base I6.hok I6.bare fun b hb => ⟨(f3 b hb).1.2.2.2.1, (f3 b hb).1.2.1, (f3 b hb).1.2.2.2.2.1, (f3 b hb).1.2.2.2.2.2⟩
      have nC : H5 s3.heap.objs.size = none := by
        have z : H5 ce.locals = none := I6.free
        rw [cL] at z
        exact z
      obtain ⟨m, hn, _⟩ := I6.loc
      have hn : s6.heap.Ns ce.locals m := hn
      rw [cL] at hn
      exact hRR D s3.heap.objs.size s6 m H5 I7 qq hn (I3.fpOk (Nat.le_refl _) nC)
    · refine thnF (T.item (X.blk s3 H3 scope ce fp) rfl rfl rfl hc i [] s5 _ H5 (fun _ _ => False) I5 (stat I5 n5) st5 go) fun r s6 ⟨u, hr, h6⟩ => ?_
      subst hr
      refine thnF h6 fun _ s7 ⟨x, H7, I7, r7, y7, st7, n7⟩ => ?_
      have I7' := I7.pinned (stat I7 n7) (T.obj _ _ st7)
      refine thnF (pg.run _ s7 _ H7 x u _ I7' r7 (step x H7 y7)) fun _ s8 ⟨σ8, H8, I8, hw8, q8⟩ => ?_
      refine thnF (pt.run _ s8 σ8 H8 _ I8 q8) fun b s9 ⟨H9, I9, q9⟩ => ?_
      have fin : ∀ {s' : Shared} {H' : Hp}, Inv (X.blk s3 H3 scope ce fp) ([] ++ pinsAt fp s7.heap) σ8 H' s' → Nx H' → ∃ m, m < n ∧ ∃ i H', Inv (X.blk s3 H3 scope ce fp) [] (L2.wipe σ (own.map (·.2))) H' s' ∧ tn i s'.heap ∧ (∀ b ∈ fp, H' b = none) ∧ W i m H' := fun {s' H'} I' nx => by
        obtain ⟨m', hm, w'⟩ := hNx H' nx
        have pin' : ∀ b ∈ fp, ∀ o, s7.heap.get? b = some o → s'.heap.get? b = some o ∧ H' b = none := fun b hb o e =>
          let z := I'.pin (b, o) (List.mem_append_right _ (List.mem_append_right _ (mem_pinsAt hb e)))
          ⟨z.1, z.2.1⟩
        have hl : (L2.wipe σ (own.map (·.2))).length = σ8.length := by rw [← hw8, wipe_length]
        refine ⟨m', hm, i + 1, H', (I'.unpinned (pins := [])).weak hl (fun j v e => ?_), T.keep _ _ _ st7 fun b hb o e => (pin' b hb o e).1, fun b hb => ?_, w'⟩
        · rw [← hw8] at e
          exact (wipe_some e).1
        · obtain ⟨o, e, _⟩ := T.obj _ _ st7 b hb
          exact (pin' b hb o e).2
      cases b with
      | false =>
        simp only [Bool.false_eq_true, if_false] at q9 ⊢
        exact fin I9 q9
      | true =>
        simp only [if_true] at q9 ⊢
        refine thnF (pk.run _ s9 σ8 H9 _ I9 q9) fun z s10 ⟨yk, H10, I10, r10, q10⟩ => ?_
        refine thnF (pe.run _ s10 σ8 H10 _ I10 q10) fun z2 s11 ⟨yv, H11, I11, r11, G, Z, xs, ks, k, j, bb, ek, hD11, a1, a2, a3, a4, a5, a6, a7, nx⟩ => ?_
        subst ek
        obtain rfl : z = .ref bb := r10
        exact d_dictSetN (X := X.blk s3 H3 scope ce fp) hu I11 hD11 a1 a2 a3 a4 a5 a6 a7 r11 fun s12 I12 => fin I12 nx
  exact codeAny_compStart_dict loop (T.self X.A 0 _ _ _ st4 loop)
theorem pe_dcn {kx vx tg iter : Expr} {ifs : List Expr} {scope : Scope} {own : List (Str × Nat)} {pos : Pos} {wi : TI} {g : TG} {tt : TT} {tk tv : TE} (hu : X.A.units + 65 < cLine) (hc : X.calm = true) (hN : X.N.Nodup) (hi : PI X tg iter wi) (ok : BlkOk X.N X.env.scope scope own)
    (hg : ∀ (s : Shared) (H : Hp) (C : Addr) (cl : List (Str × Addr)) (fp : List Addr), PG (X.blk s H scope (compEnvC scope cl C X.env) fp) tg g) (ht : ∀ (s : Shared) (H : Hp) (C : Addr) (cl : List (Str × Addr)) (fp : List Addr), PTs (X.blk s H scope (compEnvC scope cl C X.env) fp) ifs tt)
    (hk : ∀ (s : Shared) (H : Hp) (C : Addr) (cl : List (Str × Addr)) (fp : List Addr), PE (X.blk s H scope (compEnvC scope cl C X.env) fp) kx tk)
    (he : ∀ (s : Shared) (H : Hp) (C : Addr) (cl : List (Str × Addr)) (fp : List Addr), PE (X.blk s H scope (compEnvC scope cl C X.env) fp) vx tv) (hs : ∀ x, foldedSetIterable iter X.env x = pure x := by intro _; rfl) :
    PE X (.DictComp kx vx [⟨tg, iter, ifs, 0⟩] scope pos) (tDcN X.w X.K wi g tt tk tv (own.map (·.2))) := by
  refine ⟨fun pins s σ H Q I h => ?_⟩
  rw [arm_eval_DictComp]
  refine dcn_core hu hc hN I hi ok hg ht hk he hs h fun D C s' m H' I' q hn f => ⟨m, hn, fun h'' sb => ?_⟩
  obtain ⟨f0, f1, f2, f3, f4, f5⟩ := f
  exact ⟨.ref D, H', I'.turned (t' := s'.toks) (fun b o hb e => (sb.2 b hb).trans e) f0 f1 f3 f4 f5, rfl, q⟩
end
section
variable {X : Cx} {G : Nat → Addr} {E : WE} {g : Tg} {rt : RT} {rk rv : RX} {ri : RI} {pos : Pos}
def dcGo (g : Tg) (t : RT) (rk rv : RX) : List PV → List PV × List PV → EE → Sto → Res (List PV × List PV)
  | [], acc, _, st => .ok acc st
  | x :: xs, acc, env, st => match g.set (.p x) env with
    | none => .no
    | some e => (t e st).nox.bind fun b st1 => if b = true then (rk e st1).nox.bind fun k st2 => (rv e st2).nox.bind fun z st3 => (match k, z with
        | .p k, .p z => (match dPut true acc.1 acc.2 k z with
          | some r => dcGo g t rk rv xs r env st3
          | none => .no)
        | _, _ => .no) else dcGo g t rk rv xs acc env st1
/-- {k: v for ..}, an object of the store -/
def rDc (vs : List Nat) (ri : RI) (g : Tg) (t : RT) (rk rv : RX) : RX := fun env st => (ri env st).bind fun xs st1 => (dcGo g t rk rv xs ([], []) (wipeE env vs) st1).bind fun r st2 => .ok (.ref st2.length) (st2 ++ [some (.dct true false r.1 r.2)])
/-- what stands at D -/
def DnAt (w : World) (K : PySem.W.Frag) (G : Nat → Addr) (vw : Vw) (D : Addr) (acc : List PV × List PV) : Prop := ∃ xs : List (NestedKey × Addr × V), vw.H D = some (DN w D xs) ∧ PV.toKs acc.1 = some (xs.map (·.1)) ∧ (∀ x ∈ xs, x.1.depth ≤ 8) ∧ RelPs w K G vw.H vw.Z acc.1 (xs.map fun x => V.ref x.2.1) ∧ RelPs w K G vw.H vw.Z acc.2 (xs.map (·.2.2))
theorem DnAt.mono {w : World} {K : PySem.W.Frag} {vw vw1 : Vw} {D : Addr} {acc : List PV × List PV} (h : DnAt w K G vw D acc) (l : Le K vw vw1) (e : vw1.H D = vw.H D) : DnAt w K G vw1 D acc := by
  obtain ⟨xs, h1, h2, h3, h4, h5⟩ := h
  exact ⟨xs, e.trans h1, h2, h3, l.ps h4, l.ps h5⟩
theorem dc_read {w : World} {K : PySem.W.Frag} {vs : List Nat} {σ : SSt} {H : Hp} {Q : VK} (hsl : ∀ i ∈ g.slots, i ∈ vs) (h : tE w K G E (rDc vs ri g rt rk rv) σ H Q) :
    tDcN w K (tI w K G E ri) (g.rd K) (tT w K G noE rt) (tE w K G noE rk) (tE w K G noE rv) vs σ H Q := by
  obtain ⟨vw0, env, eH, ok0, re0, q⟩ := h
  refine ⟨vw0, env, eH, ok0, re0, (GQ.bind q).imp fun vw1 xs l1 ok1 q1 J H1 ⟨vw2, eH2, l2, ok2, es2, it⟩ => fun D hD => ?_⟩
  subst eH2
  have re2 : RepE w K G vw2 env σ := (re0.mono l1).mono l2
  obtain ⟨l3, ok3, d3⟩ := newApart (o := DN w D []) ok2 hD
  have hs : ∀ {vw : Vw}, Le K (vw2.grow D (DN w D []) False) vw → RepE w K G vw (wipeE env vs) (L2.wipe σ vs) := fun l => ((re2.mono l3).mono l).wipe vs
  refine ⟨fun i m H => m = xs.length - i ∧ i ≤ xs.length ∧ ∃ vw acc, vw.H = H ∧ VOk w K G vw ∧ Le K (vw2.grow D (DN w D []) False) vw ∧ Apart vw D ∧ DnAt w K G vw D acc ∧
      GQ w K G vw (fun vw' => E vw' env) ((dcGo g rt rk rv (xs.drop i) acc (wipeE env vs) vw.st).bind fun r st2 => (.ok (.ref st2.length) (st2 ++ [some (.dct true false r.1 r.2)]) : Res VV)) (fun vw' x => ∀ v, RelVV w K G vw' x v → Q v vw'.H),
    ⟨xs.length, by simp, Nat.zero_le _, vw2.grow D (DN w D []) False, ([], []), rfl, ok3, .rfl', d3, ⟨[], upd_same, by rw [PV.toKs]; rfl, fun x hx => absurd hx (by simp), RelPs.nil, RelPs.nil⟩, ?_⟩, ?_⟩
  · rw [List.drop_zero]
    rw [← es2] at q1
    exact GQ.back (l2.trans l3) q1
  rintro i m H ⟨rfl, hi, vw, acc, rfl, ok, l, d, hDl, q⟩
  by_cases hlt : i < xs.length
  · have ed : xs.drop i = xs[i] :: xs.drop (i + 1) := List.drop_eq_getElem_cons hlt
    have l23 := l3.trans l
    refine .inr ⟨it.go i vw l23.lz ok hlt, fun H' => i + 1 ≤ xs.length ∧ ∃ vw acc, vw.H = H' ∧ VOk w K G vw ∧ Le K (vw2.grow D (DN w D []) False) vw ∧ Apart vw D ∧ DnAt w K G vw D acc ∧
      GQ w K G vw (fun vw' => E vw' env) ((dcGo g rt rk rv (xs.drop (i + 1)) acc (wipeE env vs) vw.st).bind fun r st2 => (.ok (.ref st2.length) (st2 ++ [some (.dct true false r.1 r.2)]) : Res VV)) (fun vw' x => ∀ v, RelVV w K G vw' x v → Q v vw'.H),
      fun H' n => ⟨xs.length - (i + 1), by omega, rfl, n⟩, fun x H' y => ?_⟩
    have hh := it.held i vw x H' l23.lz ok y hlt D d.nn
    obtain ⟨vw4, rfl, l4, ok4, es4, hz4, r4⟩ := it.yld i vw x H' l23.lz ok y xs[i] (List.getElem?_eq_getElem hlt)
    have d4 : Apart vw4 D := Apart.yld (w := w) d l4 es4 hz4 hh
    have hD4 : DnAt w K G vw4 D acc := hDl.mono l4 hh
    rw [ed, dcGo, ← es4] at q
    cases hge : g.set (.p xs[i]) (wipeE env vs) with
    | none => rw [hge] at q; exact q.elim
    | some e =>
      rw [hge] at q
      dsimp only at q
      rw [Res.bind_bind] at q
      refine Tg.read g (.p xs[i]) x (wipeE env vs) e (L2.wipe σ vs) r4 (hs (l.trans l4)) hge fun σ2 re2 hw => ⟨by rw [hw vs hsl, wipe_wipe], ?_⟩
      have reH : RepE w K G (vw4.hold D) e σ2 := ⟨re2.1, fun i x h => let ⟨v, a, b⟩ := re2.2 i x h; ⟨v, a, relVV_hold.mpr b⟩⟩
      refine ⟨vw4.hold D, e, rfl, ok4.hold d4, reH, ?_⟩
      show GQ w K G (vw4.hold D) _ (rt e vw4.st) _
      generalize rt e vw4.st = r1 at q
      cases r1 with
      | ex c us st => exact q.elim
      | no => exact q.elim
      | ok b st1 =>
        intro vw5 l5 ok5 es5
        have o5 := VOk.unhold l5 ok5
        obtain ⟨d5, e5⟩ := d4.still l5 ok5
        have l45 := Le.unhold l5
        cases b with
        | false =>
          have q : GQ w K G vw (fun vw' => E vw' env) ((dcGo g rt rk rv (xs.drop (i + 1)) acc (wipeE env vs) st1).bind fun r st2 => (.ok (.ref st2.length) (st2 ++ [some (.dct true false r.1 r.2)]) : Res VV)) (fun vw' x => ∀ v, RelVV w K G vw' x v → Q v vw'.H) := q
          refine ⟨hlt, vw5.unhold vw4.F, acc, rfl, o5, (l.trans l4).trans l45, d5, hD4.mono l45 e5, ?_⟩
          show GQ w K G _ _ ((dcGo g rt rk rv (xs.drop (i + 1)) acc (wipeE env vs) vw5.st).bind _) _
          rw [es5]
          exact GQ.back (l4.trans l45) q
        | true =>
          have q : GQ w K G vw (fun vw' => E vw' env) (((rk e st1).nox.bind fun k st2 => (rv e st2).nox.bind fun z st3 => (match k, z with
            | .p k, .p z => (match dPut true acc.1 acc.2 k z with
              | some r => dcGo g rt rk rv (xs.drop (i + 1)) r (wipeE env vs) st3
              | none => .no)
            | _, _ => .no)).bind fun r st2 => (.ok (.ref st2.length) (st2 ++ [some (.dct true false r.1 r.2)]) : Res VV)) (fun vw' x => ∀ v, RelVV w K G vw' x v → Q v vw'.H) := q
          rw [Res.bind_bind, ← es5] at q
          refine ⟨vw5, e, rfl, ok5, reH.mono l5, ?_⟩
          generalize rk e vw5.st = r2 at q
          cases r2 with
          | ex c us st => exact q.elim
          | no => exact q.elim
          | ok k st2 =>
            intro vw6 l6 ok6 es6 vk rk'
            have q : GQ w K G vw (fun vw' => E vw' env) (((rv e st2).nox.bind fun z st3 => (match k, z with
              | .p k, .p z => (match dPut true acc.1 acc.2 k z with
                | some r => dcGo g rt rk rv (xs.drop (i + 1)) r (wipeE env vs) st3
                | none => .no)
              | _, _ => .no)).bind fun r st2 => (.ok (.ref st2.length) (st2 ++ [some (.dct true false r.1 r.2)]) : Res VV)) (fun vw' x => ∀ v, RelVV w K G vw' x v → Q v vw'.H) := q
            rw [Res.bind_bind, ← es6] at q
            refine ⟨vw6, e, rfl, ok6, (reH.mono l5).mono l6, ?_⟩
            generalize rv e vw6.st = r3 at q
            cases r3 with
            | ex c us st => exact q.elim
            | no => exact q.elim
            | ok z st3 =>
              intro vw7 l7 ok7 es7 vz rz
              have l47 := (l5.trans l6).trans l7
              have o7 := VOk.unhold l47 ok7
              obtain ⟨d7, e7⟩ := d4.still l47 ok7
              have l47u := Le.unhold l47
              cases k with
              | ref n => exact q.elim
              | p k =>
                cases z with
                | ref n => exact q.elim
                | p z =>
                  have q : GQ w K G vw (fun vw' => E vw' env) ((match dPut true acc.1 acc.2 k z with
                    | some r => dcGo g rt rk rv (xs.drop (i + 1)) r (wipeE env vs) st3
                    | none => .no : Res (List PV × List PV)).bind fun r st2 => (.ok (.ref st2.length) (st2 ++ [some (.dct true false r.1 r.2)]) : Res VV)) (fun vw' x => ∀ v, RelVV w K G vw' x v → Q v vw'.H) := q
                  obtain ⟨ys, g1, g2, g3, g4, g5⟩ := hD4.mono l47u e7
                  have rk7 : RelP w K G vw7.H vw7.Z k vk := l7.p rk'
                  split at q
                  · rename_i r hr
                    unfold dPut at hr
                    dsimp only at hr
                    cases k with
                    | tup ts =>
                      dsimp only at hr
                      cases ej : PV.toK (.tup ts) with
                      | none => rw [ej] at hr; cases hr
                      | some j =>
                        rw [ej] at hr
                        dsimp only at hr
                        split at hr
                        · rename_i hj
                          cases hr
                          obtain ⟨bb, ws, rfl, _⟩ := relTup.mp rk7
                          obtain ⟨ks', us', e1, e2, e3, e4, e5'⟩ := nput_rel (b := bb) g2 g3 g4 g5 ej hj.1 rk7 rz
                          have hlen : ys.length < sizeLine := by
                            have := g4.len
                            rw [List.length_map] at this
                            rw [← this]; exact hj.2
                          have lp := Le.put (K := K) (o := DN w D (xPut ys j bb vz)) d7 g1 rfl
                          have op := VOk.put (o := DN w D (xPut ys j bb vz)) o7 d7 g1 rfl
                          refine ⟨G, vw7.Z, ys, acc.1, .tup ts, j, bb, rfl, g1, g2, g3, g4, hlen, rk7, ej, hj.1, hlt, (vw7.unhold vw4.F).put D (DN w D (xPut ys j bb vz)), (ks', us'), rfl, op, (l.trans l4).trans (l47u.trans lp), d7.put, ⟨_, upd_same, e2, e3, lp.ps e4, lp.ps e5'⟩, ?_⟩
                          show GQ w K G _ _ ((dcGo g rt rk rv (xs.drop (i + 1)) (ks', us') (wipeE env vs) vw7.st).bind _) _
                          rw [es7]
                          rw [pHas_eq ej g2, pRep_eq ej g2, e1] at q
                          exact GQ.back (l4.trans (l47u.trans lp)) q
                        · cases hr
                    | _ => cases hr
                  · exact q.elim
  · have e : i = xs.length := by omega
    subst e
    rw [List.drop_length, dcGo] at q
    obtain ⟨ys, g1, g2, g3, g4, g5⟩ := hDl
    refine .inl ⟨it.stop _ vw (l3.trans l).lz ok rfl, ?_⟩
    exact q (vw.adopt D (.dct true false acc.1 acc.2)) Le.adopt (VOk.adopt ok d ⟨ys, g1, g2, g3, g4, g5⟩) rfl _ ⟨by show _ < (vw.st ++ [_]).length; simp, congrArg V.ref (if_pos rfl).symm⟩
theorem px_dc {kx vx tg it : Expr} {ifs : List Expr} {scope : Scope} (own : List (Str × Nat)) (hu : X.A.units + 65 < cLine) (hc : X.calm = true) (hN : X.N.Nodup) (hi : PXI X G E tg it ri) (ok : BlkOk X.N X.env.scope scope own) (hsl : ∀ i ∈ g.slots, i ∈ own.map (·.2))
    (hg : ∀ (s : Shared) (H : Hp) (C : Addr) (cl : List (Str × Addr)) (fp : List Addr), PXG (X.blk s H scope (compEnvC scope cl C X.env) fp) tg g) (ht : ∀ (s : Shared) (H : Hp) (C : Addr) (cl : List (Str × Addr)) (fp : List Addr), PXIf (X.blk s H scope (compEnvC scope cl C X.env) fp) G noE ifs rt)
    (hk : ∀ (s : Shared) (H : Hp) (C : Addr) (cl : List (Str × Addr)) (fp : List Addr), PX (X.blk s H scope (compEnvC scope cl C X.env) fp) G noE kx rk)
    (hv : ∀ (s : Shared) (H : Hp) (C : Addr) (cl : List (Str × Addr)) (fp : List Addr), PX (X.blk s H scope (compEnvC scope cl C X.env) fp) G noE vx rv) (hs : ∀ x, foldedSetIterable it X.env x = pure x := by intro _; rfl) :
    PX X G E (.DictComp kx vx [⟨tg, it, ifs, 0⟩] scope pos) (rDc (own.map (·.2)) ri g rt rk rv) :=
  (pe_dcn hu hc hN hi ok hg ht hk hv hs).weak fun σ H Q h => dc_read hsl h
end
end Ev
end S_Ev22
section S_Ev23
namespace Ev
open PySem PySem.Spec PyProof.Rows L2
/-! ### isinstance -/
/-- a type: a built-in one, or a class of the program -/
inductive TC where
  | ty (n : String) | cls (c : Nat)
def TC.val (G : Nat → Addr) : TC → Value
  | .ty n => .type n
  | .cls c => .ref (G c)
def tyRef (st : Sto) (n : Nat) : Option TC := match st[n]? with
  | some (some (.lst _ _)) => some (.ty "list")
  | some (some (.dct _ _ _ _)) => some (.ty "dict")
  | some (some (.ins c _ _)) => some (.cls c)
  | _ => none
/-- the type of a value -/
def tyOfV (st : Sto) : VV → Option TC
  | .p .non => some (.ty "NoneType")
  | .p (.bl _) => some (.ty "bool")
  | .p (.int _) => some (.ty "int")
  | .p (.str _) => some (.ty "str")
  | .p (.tup _) => some (.ty "tuple")
  | .p (.lst _) => some (.ty "list")
  | .p (.lsf _) => some (.ty "list")
  | .p (.dct _ _ _) => some (.ty "dict")
  | .p (.ins c _ _) => some (.cls c)
  | .p (.ty _) => none
  | .p (.glb _) => none
  | .ref n => tyRef st n
/-- what of the text an own class must have -/
structure InsOk (K : PySem.W.Frag) (C : Addr) : Prop where
  cl : Cls K C
  ha : PySem.W.findIn K (.ref C) "__class__" = some (some (.builtin "object.__class__"))
  hn : PySem.W.specialIn K (.builtin "object.__class__") "__get__" = some (some (.builtin "getset_descriptor.__get__"))
  tk : PySem.W.takesIn K (.builtin "object.__class__") = some true
  mr : PySem.W.mroIn K C (.type "object") = some true
/-- the tests that are known -/
structure IsT (K : PySem.W.Frag) (G : Nat → Addr) (is : TC → TC → Option Bool) : Prop where
  one : ∀ t u b, is t u = some b → PySem.W.kitOne K (t.val G) (u.val G) = some b
  ins : ∀ c u b, is (.cls c) u = some b → InsOk K (G c)
def isAny (is : TC → TC → Option Bool) (t : TC) : List TC → Option Bool
  | [] => some false
  | u :: us => match is t u with
    | some true => some true
    | some false => isAny is t us
    | none => none
def clsP : PV → Option TC
  | .ty n => some (.ty n)
  | .glb c => some (.cls c)
  | _ => none
def clsPs : List PV → Option (List TC)
  | [] => some []
  | x :: xs => match clsP x, clsPs xs with
    | some t, some ts => some (t :: ts)
    | _, _ => none
theorem isAny_ok {K : PySem.W.Frag} {G : Nat → Addr} {is : TC → TC → Option Bool} (h : IsT K G is) {t : TC} : ∀ {us : List TC} {b : Bool}, isAny is t us = some b → PySem.W.kitAny K (t.val G) (us.map (TC.val G)) = some b
  | [], b, e => by cases e; rfl
  | u :: us, b, e => by
    unfold isAny at e
    rw [List.map_cons]
    unfold PySem.W.kitAny
    split at e
    · rename_i q
      cases e
      rw [h.one _ _ _ q]
    · rename_i q
      rw [h.one _ _ _ q]
      exact isAny_ok h e
    · cases e
section
variable {X : Cx} {G : Nat → Addr} {E : WE} {pins : List (Addr × Obj)} {σ : SSt} {s : Shared} {vw : Vw}
theorem kit_seq {vs : List V} {a : Addr} (I : Inv X pins σ vw.H s) (h : SqL X.K vw.H a vs) : ∃ P : Heap → Prop, PySem.W.KitX X.K (.ref a) (.type "list") P ∧ P s.heap := by
  obtain ⟨its, rv, ⟨o, n, h1, h2, h3, h4⟩, _⟩ := I.list h
  exact ⟨_, PySem.W.kitx_list, ⟨o, h1, h2⟩⟩
theorem kit_tupv {vs : List V} {a : Addr} (I : Inv X pins σ vw.H s) (h : SqT X.K vw.H a vs) : ∃ P : Heap → Prop, PySem.W.KitX X.K (.ref a) (.type "tuple") P ∧ P s.heap := by
  obtain ⟨its, rv, ⟨o, h1, h2, n, h4⟩, _⟩ := I.tuple h
  exact ⟨_, PySem.W.kitx_tuple, ⟨o, h1, h2⟩⟩
theorem kit_dctv {a : Addr} {nk : Bool} {ks us : List PV} (I : Inv X pins σ vw.H s) (h : DctRd X.w X.K G vw a ks us nk) : ∃ P : Heap → Prop, PySem.W.KitX X.K (.ref a) (.type "dict") P ∧ P s.heap := by
  cases nk with
  | true =>
    obtain ⟨xs, h1, _⟩ := h
    obtain ⟨⟨z1, z2, o, es, ep, ho, hx, _⟩, _⟩ := h1.ok I.hok
    exact ⟨_, PySem.W.kitx_dict, ⟨o, ho, hx.1⟩⟩
  | false =>
    obtain ⟨kvs, h1, _⟩ := h
    obtain ⟨_, _, vs, _, o, es, ep, ho, hx, _⟩ := dk_rd I.hok h1
    exact ⟨_, PySem.W.kitx_dict, ⟨o, ho, hx.1⟩⟩
theorem kit_insv {a C dx : Addr} {fs : List (Str × V)} (I : Inv X pins σ vw.H s) (h : vw.H a = some (.ins C dx fs)) (k : InsOk X.K C) : ∃ P : Heap → Prop, PySem.W.KitX X.K (.ref a) (.ref C) P ∧ P s.heap := by
  obtain ⟨mA, O, _⟩ := ins_get I.hok h
  obtain ⟨od, J, _⟩ := O.look
  exact ⟨_, PySem.W.kitx_own (k.cl.get _) k.cl.hd k.ha k.hn k.tk k.mr, J⟩
theorem kit_v {is : TC → TC → Option Bool} (hi : IsT X.K G is) (I : Inv X pins σ vw.H s) (ok : VOk X.w X.K G vw) {z : VV} {v : V} {u : Value} (rz : RelVV X.w X.K G vw z v) (ru : RelV v u) {t : TC} (ht : tyOfV vw.st z = some t) (hc : ∀ c, t = .cls c → InsOk X.K (G c)) :
    ∃ P : Heap → Prop, PySem.W.KitX X.K u (t.val G) P ∧ P s.heap ∧ u ≠ .builtin "__main__.__loader__#opaque" := by
  have refc : ∀ {a : Addr} {t : Value}, v = .ref a → (∃ P : Heap → Prop, PySem.W.KitX X.K (.ref a) t P ∧ P s.heap) → ∃ P : Heap → Prop, PySem.W.KitX X.K u t P ∧ P s.heap ∧ u ≠ .builtin "__main__.__loader__#opaque" := fun {a t} e ⟨P, h1, h2⟩ => by
    subst e
    cases (show u = Value.ref a from ru)
    exact ⟨P, h1, h2, fun z => nomatch z⟩
  cases z with
  | p x =>
    have r : RelP X.w X.K G vw.H vw.Z x v := rz
    cases x with
    | non => cases ht; rw [RelP] at r; subst r; cases (show u = Value.none from ru); exact ⟨_, PySem.W.kitx_none, True.intro, fun z => nomatch z⟩
    | bl b => cases ht; rw [RelP] at r; subst r; cases (show u = Value.bool b from ru); exact ⟨_, PySem.W.kitx_bool, True.intro, fun z => nomatch z⟩
    | int b => cases ht; rw [RelP] at r; subst r; obtain ⟨t, q⟩ := (show ∃ t, u = Value.int b t from ru); cases q; exact ⟨_, PySem.W.kitx_int, True.intro, fun z => nomatch z⟩
    | str b => cases ht; rw [RelP] at r; subst r; obtain ⟨t, q⟩ := (show ∃ t, u = Value.str b t from ru); cases q; exact ⟨_, PySem.W.kitx_str, True.intro, fun z => nomatch z⟩
    | tup xs => cases ht; obtain ⟨p, vs, e, h, _⟩ := relTup.mp r; exact refc e (kit_tupv I h)
    | lst xs => cases ht; obtain ⟨p, vs, e, _, h, _⟩ := relLst.mp r; exact refc e (kit_seq I (.of h))
    | lsf xs => cases ht; obtain ⟨p, vs, e, h, _⟩ := relLsf.mp r; exact refc e (kit_seq I h.sq)
    | dct nk ks us =>
      cases ht
      obtain ⟨p, e, h⟩ := dctOf_rel (z := .p (.dct nk ks us)) ok rz rfl
      exact refc e (kit_dctv I h)
    | ins c fs us =>
      cases ht
      rw [RelP] at r
      obtain ⟨a, dx, vs, e, _, h1, _⟩ := r
      exact refc e (kit_insv I h1 (hc c rfl))
    | ty n => cases ht
    | glb n => cases ht
  | ref n =>
    have ht : tyRef vw.st n = some t := ht
    unfold tyRef at ht
    split at ht
    · rename_i lk xs eo
      cases ht
      obtain ⟨vs, h1, _⟩ := ok.ob n _ eo
      exact refc rz.2 (kit_seq I (.of h1))
    · rename_i nk lk ks us eo
      cases ht
      obtain ⟨p, e, h⟩ := dctOf_rel (z := .ref n) (nk := nk) (ks := ks) (us := us) ok rz (show (match vw.st[n]? with
        | some (some (.dct nk _ ks us)) => some (nk, ks, us)
        | _ => none) = some (nk, ks, us) by rw [eo])
      exact refc e (kit_dctv I h)
    · rename_i c fs us eo
      cases ht
      obtain ⟨dx, vs, h1, _⟩ := ok.ob n _ eo
      exact refc rz.2 (kit_insv I h1 (hc c rfl))
    · cases ht
def bIsi (is : TC → TC → Option Bool) : MF := fun xs st => match xs with
  | [z, .p (.tup cs)] => (match tyOfV st z, clsPs cs with
    | some t, some us => (match isAny is t us with
      | some b => if us.isEmpty = true then .no else .ok (.p (.bl b)) st
      | none => .no)
    | _, _ => .no)
  | [z, .p c] => (match tyOfV st z, clsP c with
    | some t, some u => (match is t u with
      | some b => .ok (.p (.bl b)) st
      | none => .no)
    | _, _ => .no)
  | _ => .no
theorem clsP_val {w : World} {K : PySem.W.Frag} {H : Hp} {Z : Addr → Prop} {c : PV} {v : V} {u : Value} {t : TC} (r : RelP w K G H Z c v) (ru : RelV v u) (h : clsP c = some t) : u = t.val G := by
  cases c <;> try (cases h; done)
  · cases h; rw [RelP] at r; subst r; exact ru
  · cases h; rw [RelP] at r; subst r; exact ru
theorem clsPs_val {w : World} {K : PySem.W.Frag} {H : Hp} {Z : Addr → Prop} : ∀ {cs : List PV} {vs : List V} {us : List Value} {ts : List TC}, RelPs w K G H Z cs vs → Vals vs us → clsPs cs = some ts → us = ts.map (TC.val G)
  | [], vs, us, ts, r, rv, h => by rw [RelPs] at r; subst r; cases rv; cases h; rfl
  | c :: cs, vs, us, ts, r, rv, h => by
    rw [RelPs] at r
    obtain ⟨v, rr, rfl, r1, r2⟩ := r
    cases rv with
    | cons a b =>
      unfold clsPs at h
      split at h
      · rename_i t ts' e1 e2
        cases h
        rw [List.map_cons, clsP_val r1 a e1, clsPs_val r2 b e2]
      · cases h
theorem cb_isi {is : TC → TC → Option Bool} (hi : IsT X.K G is) : CallR X (.builtin "isinstance") (qB X.w X.K G (bIsi is)) := by
  rintro pins s σ H vs us Q I r ⟨vw, xs, rfl, ok, rs, q⟩
  unfold bIsi at q
  split at q
  · rename_i z cs
    obtain ⟨v, _, rfl, rv, v2, _, rfl, rv2, rfl⟩ := rs
    split at q
    · rename_i t ts e1 e2
      split at q
      · rename_i b hb
        split at q
        · exact q.elim
        · rename_i hne
          obtain ⟨u1, u2, rfl, r1, r2⟩ := vals2 r
          obtain ⟨p, ws, rfl, hp, hl, rw_⟩ := relTup.mp (show RelP X.w X.K G vw.H vw.Z (.tup cs) v2 from rv2)
          cases (show u2 = Value.ref p from r2)
          obtain ⟨its, rvs, ⟨⟨oc, od, dt, sl⟩, h1, h2, n, h4⟩, _⟩ := I.tuple hp
          simp only at h2 h4
          subst h2 h4
          have ei := clsPs_val rw_ rvs e2
          subst ei
          obtain ⟨P, Z, p1, hx⟩ := kit_v hi I ok rv r1 e1 fun c ec => by
            subst ec
            cases ts with
            | nil => exact absurd rfl hne
            | cons u us =>
              unfold isAny at hb
              split at hb
              · rename_i q'; exact hi.ins _ _ _ q'
              · rename_i q'; exact hi.ins _ _ _ q'
              · cases hb
          exact PySem.W.kia_tup Z I.kIn p1 h1 (isAny_ok hi hb) hx fun tk => ⟨.bl b, vw.H, I.tok tk, rfl, q vw .rfl' ok rfl _ vvBl⟩
      · exact q.elim
    · exact q.elim
  · rename_i z c _
    obtain ⟨v, _, rfl, rv, v2, _, rfl, rv2, rfl⟩ := rs
    split at q
    · rename_i t u e1 e2
      split at q
      · rename_i b hb
        obtain ⟨u1, u2, rfl, r1, r2⟩ := vals2 r
        have ec := clsP_val (show RelP X.w X.K G vw.H vw.Z c v2 from rv2) r2 e2
        subst ec
        obtain ⟨P, Z, p, hx⟩ := kit_v hi I ok rv r1 e1 fun c ec => by subst ec; exact hi.ins _ _ _ hb
        exact PySem.W.kia_one Z I.kIn p (hi.one _ _ _ hb) hx fun tk => ⟨.bl b, vw.H, I.tok tk, rfl, q vw .rfl' ok rfl _ vvBl⟩
      · exact q.elim
    · exact q.elim
  · exact q.elim
/-! ### d.pop(k), nested keys -/
def kDrop : List NestedKey → List PV → NestedKey → List PV
  | k :: kk, u :: us, j => if k = j then kDrop kk us j else u :: kDrop kk us j
  | _, _, _ => []
def pDrop : List PV → List PV → PV → List PV
  | k :: ks, u :: us, j => bif PV.eqK k j then pDrop ks us j else u :: pDrop ks us j
  | _, _, _ => []
def bDPop : MF := fun xs st => match xs with
  | [.ref n, .p (.tup ts)] => (match st[n]? with
    | some (some (.dct true false ks us)) => (match PV.toK (.tup ts) with
      | some j => if j.depth ≤ 8 then (match pFind ks us (.tup ts) with
        | some x => .ok (.p x) (st.set n (some (.dct true false (pDrop ks ks (.tup ts)) (pDrop ks us (.tup ts)))))
        | none => .no) else .no
      | none => .no)
    | _ => .no)
  | _ => .no
theorem pDrop_eq {k : PV} {j : NestedKey} (hj : k.toK = some j) : ∀ {ks : List PV} {kk : List NestedKey} {us : List PV}, PV.toKs ks = some kk → pDrop ks us k = kDrop kk us j
  | [], kk, us, h => by rw [PV.toKs] at h; cases h; unfold pDrop kDrop; rfl
  | x :: xs, kk, [], h => by
    obtain ⟨d, ds, _, _, rfl⟩ := toKs_cons h
    unfold pDrop kDrop; rfl
  | x :: xs, kk, u :: us, h => by
    obtain ⟨d, ds, e1, e2, rfl⟩ := toKs_cons h
    rw [pDrop, kDrop, PV.eqK_eq x k d j e1 hj, pDrop_eq hj e2]
    by_cases c : d = j
    · rw [decide_eq_true c, if_pos c, cond_true]
    · rw [decide_eq_false c, if_neg c, cond_false]
def xDrop (xs : List (NestedKey × Addr × V)) (j : NestedKey) : List (NestedKey × Addr × V) := xs.filter fun x => decide (x.1 ≠ j)
theorem XV.drop {j : NestedKey} : ∀ {xs : List (NestedKey × Addr × V)} {ys : List (NestedKey × Addr × Value)}, XV xs ys → XV (xDrop xs j) (withoutH ys j)
  | _, _, .nil => .nil
  | x :: xs, y :: ys, .cons ⟨e1, e2, e3⟩ t => by
    unfold xDrop withoutH
    rw [List.filter_cons, List.filter_cons, e1]
    have ih := XV.drop (j := j) t
    by_cases c : x.1 = j
    · rw [if_neg (by simp [c]), if_neg (by simp [c])]; exact ih
    · rw [if_pos (by simp [c]), if_pos (by simp [c])]; exact .cons ⟨e1, e2, e3⟩ ih
theorem kDrop_rel {w : World} {K : PySem.W.Frag} {H : Hp} {Z : Addr → Prop} {j : NestedKey} (f : NestedKey × Addr × V → V) : ∀ {xs : List (NestedKey × Addr × V)} {us : List PV}, RelPs w K G H Z us (xs.map f) → RelPs w K G H Z (kDrop (xs.map (·.1)) us j) ((xDrop xs j).map f)
  | [], us, h => by unfold kDrop; exact RelPs.nil
  | x :: xs, [], h => by rw [RelPs] at h; cases h
  | x :: xs, u :: us, h => by
    rw [RelPs] at h
    obtain ⟨v, r, e, h1, h2⟩ := h
    rw [List.map_cons] at e
    injection e with ev er
    subst ev er
    have ih := kDrop_rel (j := j) f h2
    rw [List.map_cons, kDrop]
    unfold xDrop
    rw [List.filter_cons]
    by_cases c : x.1 = j
    · rw [if_pos c, if_neg (by simp [c])]; exact ih
    · rw [if_neg c, if_pos (by simp [c]), List.map_cons]; exact RelPs.cons h1 ih
theorem kDrop_keys {j : NestedKey} : ∀ {ks : List PV} {kk : List NestedKey}, PV.toKs ks = some kk → PV.toKs (kDrop kk ks j) = some (kk.filter fun x => decide (x ≠ j))
  | [], kk, h => by rw [PV.toKs] at h; cases h; unfold kDrop; rw [PV.toKs]; rfl
  | k :: ks, kk, h => by
    rw [PV.toKs] at h
    split at h
    · rename_i d ds e1 e2
      cases h
      rw [kDrop, List.filter_cons]
      by_cases c : d = j
      · rw [if_pos c, if_neg (by simp [c])]; exact kDrop_keys e2
      · rw [if_neg c, if_pos (by simp [c]), PV.toKs, e1, kDrop_keys e2]
    · cases h
theorem xDrop_keys {j : NestedKey} : ∀ {xs : List (NestedKey × Addr × V)}, (xDrop xs j).map (·.1) = (xs.map (·.1)).filter fun x => decide (x ≠ j)
  | [] => rfl
  | x :: xs => by
    unfold xDrop
    rw [List.filter_cons, List.map_cons, List.filter_cons]
    have ih := xDrop_keys (j := j) (xs := xs)
    unfold xDrop at ih
    split
    · rw [List.map_cons, ih]
    · exact ih
def isD (st : Sto) (z : VV) : Bool := (dctOf st z).isSome
theorem tyD : TyOk X G "dict" isD := fun pins s σ vw z v u I ok rz ru h => by
  unfold isD at h
  obtain ⟨⟨nk, ks, us⟩, e⟩ := Option.isSome_iff_exists.mp h
  obtain ⟨p, rfl, hd⟩ := dctOf_rel ok rz e
  cases (show u = Value.ref p from ru)
  cases nk with
  | true =>
    obtain ⟨xs, h1, _⟩ := hd
    obtain ⟨⟨z1, z2, o, es, ep, ho, hx, _⟩, _⟩ := h1.ok I.hok
    exact ⟨⟨o, ho, hx.1⟩, fun a q => by cases q; exact ⟨o, ho, hx.2.1⟩⟩
  | false =>
    obtain ⟨kvs, h1, _⟩ := hd
    obtain ⟨_, _, vs, _, o, es, ep, ho, hx, _⟩ := dk_rd I.hok h1
    exact ⟨⟨o, ho, hx.1⟩, fun a q => by cases q; exact ⟨o, ho, hx.2.1⟩⟩
theorem mb_dpop (hu : X.A.units + 65 < cLine) : MB X G "dict.pop" bDPop := by
  rintro pins s σ H x vs u us Q I ru rus ⟨vw, xs, rfl, ok, rs, q⟩
  unfold bDPop at q
  split at q
  · rename_i n ts
    obtain ⟨_, _, e0, r0, v1, _, rfl, rx, rfl⟩ := rs
    cases e0
    split at q
    · rename_i ks us' eo
      split at q
      · rename_i j hj
        split at q
        · rename_i hdp
          split at q
          · rename_i x0 hf
            obtain ⟨hn, rfl⟩ := r0
            obtain ⟨xs, h1, h2, h3, h4, h5⟩ := ok.ob n _ eo
            have h1 : vw.H (vw.al n) = some (DN X.w (vw.al n) xs) := h1
            rw [pDrop_eq hj h2, pDrop_eq hj h2] at q
            rw [pFind_eq hj h2] at hf
            obtain ⟨b, ws, rfl, _⟩ := relTup.mp (show RelP X.w X.K G vw.H vw.Z (.tup ts) v1 from rx)
            cases (show u = Value.ref (vw.al n) from ru)
            obtain ⟨u1, rfl, ru1⟩ := rus.one
            cases (show u1 = Value.ref b from ru1)
            obtain ⟨g1, g2, ys, g3, g4⟩ := dn_at I (.inl h1) h2 h3 h4
            have hat := kFind_at (j := j) g3 h5
            rw [hf] at hat
            obtain ⟨p, v, e1, e2, e3⟩ := hat
            refine call_pop_heap (knd := nestedKind X.prog X.w) (.inl rfl) (F.args_dict_pop_2 _ _) (show X.A.in1.units + 8 < cLine from by show X.A.units + 1 + 8 < cLine; omega) ⟨RelP.nk I _ _ _ _ rx rfl hj, hdp⟩ g1 g4 e1 (fun h' dd' hs => ?_) (by rw [← Paired.length g3]; exact g2)
            have I2 := d_write (t' := s.toks + (nestedKind X.prog X.w).draws j) (ob := DN X.w (vw.al n) (xDrop xs j)) I (by rw [h1]; exact True.intro) hs (let ⟨o, _, _, ho, _⟩ := dd'; ⟨o, ho⟩)
              (dn_new g1 (by have := List.length_filter_le (fun x : NestedKey × Addr × V => decide (x.1 ≠ j)) xs; show (xs.filter _).length ≤ _; omega) g3.drop dd')
            have l := Le.write (K := X.K) (o := DN X.w (vw.al n) (xDrop xs j)) (ob := .dct true false (kDrop (xs.map (·.1)) ks j) (kDrop (xs.map (·.1)) us' j)) ok eo h1 rfl
            refine ⟨v, _, I2, e2, ?_⟩
            exact q (vw.write n _ (.dct true false (kDrop (xs.map (·.1)) ks j) (kDrop (xs.map (·.1)) us' j))) l (VOk.write ok eo h1 rfl ⟨xDrop xs j, upd_same, by rw [kDrop_keys h2, xDrop_keys], fun x hx => h3 x (List.mem_filter.mp hx).1, l.ps (kDrop_rel (fun x => V.ref x.2.1) h4), l.ps (kDrop_rel (fun x => x.2.2) h5)⟩) rfl _ (l.p e3)
          · exact q.elim
        · exact q.elim
      · exact q.elim
    · exact q.elim
  · exact q.elim
variable {pos p apos cpos : Pos} {o e : Expr} {es : List Expr} {t : RA} {ra : RX}
theorem px_dpop (hu : X.A.units + 65 < cLine) (ho : PX X G E o ra) (ha : PXA X G E [e] t)
    (hbase : attributeBase o "pop" X.env (eval o X.env) = eval o X.env := by rfl)
    (hfew : ((backTo cpos (starEach [e] X.env)).all (fun x => !x.1) && (backToKw cpos (keywordEach [] X.env)).all (fun x => x.1.isSome)
      && decide (([e] : List Expr).length + ([] : List Keyword).length + (if ([] : List Keyword).isEmpty then 0 else 1) < 30)) = true := by rfl)
    (hline : (apos.endLine == cpos.line) = true := by rfl) (hs : starEach [e] X.env = (false, eval e X.env) :: starEach [] X.env := by rfl) (hplain : (backTo cpos (starEach [] X.env)).any (·.1) = false := by rfl) :
    PX X G E (.Call (.Attribute o "pop" apos) [e] [] cpos) (rBM isD bDPop ra t) := px_bm tyD PySem.F.plainAttrs_dict PySem.F.slot_dict_pop PySem.F.type_dict_pop (mb_dpop hu) ho ha hbase hfew hline hs hplain
/-! ### max(xs, default=d), xs[::-1] -/
theorem px_maxDef {j : Nat} {d : Int} {q1 q2 : Pos} (hu : X.A.units + 65 < cLine) (hc : X.calm = true) (hg : Gl X "max") (hm : X.mg "max" = none) (ha : PXA X G E [e] t) (hv : bootBuiltins "max" = some (.builtin "max") := by rfl)
    (he : backTo pos (starEach [e] X.env) = (false, eval e X.env) :: backTo pos (starEach [] X.env) := by rfl) (hpl : (backTo pos (starEach [e] X.env)).any (·.1) = false := by rfl)
    (hall : (backToKw pos (keywordEach [⟨some "default", .Constant (.int d) j q1, q2⟩] X.env)).all (·.1.isSome) = true := by rfl) (hnone : (backToKw pos (keywordEach [⟨some "default", .Constant (.int d) j q1, q2⟩] X.env)).any (·.1.isNone) = false := by rfl)
    (hks : (backToKw pos (keywordEach [⟨some "default", .Constant (.int d) j q1, q2⟩] X.env)).filterMap (·.1) = (["default"] : List Str) := by rfl) :
    PX X G E (.Call (.Name "max" p) [e] [⟨some "default", .Constant (.int d) j q1, q2⟩] pos) (rMaxDef t d) :=
  (pe_callBK (crk_max hu hc) hg hm hv ha (pk_cons pe_int pk_nil) (by decide) (by decide) he hpl hall hnone hks).weak fun σ H Q ⟨vw, env, eH, ok, re, q⟩ => by
    refine ⟨vw, env, eH, ok, re, (GQ.bind q).imp fun vw1 xs l1 ok1 q1 vs rs => ?_⟩
    show _
    split at q1
    · rename_i z
      obtain ⟨v, _, rfl, rv, rfl⟩ := rs
      split at q1
      · rename_i ys e1
        obtain ⟨pp, ws, rfl, hl, rw_, h⟩ := seqOf_rel ok1 rv e1
        rw [if_pos rfl] at h
        split at q1
        · rename_i hb
          have e3 := intsOf_rel rw_ hb
          subst e3
          exact ⟨pp, [], d, rfl, rfl, h, fun _ => q1 vw1 .rfl' ok1 rfl _ vvInt, fun n ms z => by cases z⟩
        · rename_i n ns hb
          have e3 := intsOf_rel rw_ hb
          subst e3
          exact ⟨pp, n :: ns, d, rfl, rfl, h, (fun z => by cases z), fun n' ms z => by cases z; exact q1 vw1 .rfl' ok1 rfl _ vvInt⟩
        · exact q1.elim
      · exact q1.elim
    · exact q1.elim
def rRev (r : RX) : RX := fun env st => (r env st).bind fun x st1 => match seqOf st1 x with
  | some (true, ys) => .ok (.p (.lst ys.reverse)) st1
  | _ => .no
theorem RelPs.rev {w : World} {K : PySem.W.Frag} {H : Hp} {Z : Addr → Prop} : ∀ {xs : List PV} {vs : List V}, RelPs w K G H Z xs vs → RelPs w K G H Z xs.reverse vs.reverse
  | [], vs, h => by rw [RelPs] at h; subst h; exact RelPs.nil
  | x :: xs, vs, h => by
    rw [RelPs] at h
    obtain ⟨v, r, rfl, h1, h2⟩ := h
    rw [List.reverse_cons, List.reverse_cons]
    exact (RelPs.rev h2).app (RelPs.cons h1 RelPs.nil)
theorem px_rev {k : Nat} {p1 p2 p3 : Pos} (h : PX X G E e ra) : PX X G E (.Subscript e (.Slice none none (some (.UnaryOp .USub (.Constant (.int 1) k p1) p2)) p3) pos) (rRev ra) := (pe_revL h).weak fun σ H Q ⟨vw, env, eH, ok, re, q⟩ => by
  refine ⟨vw, env, eH, ok, re, (GQ.bind q).imp fun vw1 x l1 ok1 q1 v rv => ?_⟩
  split at q1
  · rename_i ys e1
    obtain ⟨p, ws, rfl, hl, rw_, h⟩ := seqOf_rel ok1 rv e1
    rw [if_pos rfl] at h
    refine ⟨p, ws, rfl, h, fun p hp => ?_⟩
    obtain ⟨vw', eh, l', o, es, r'⟩ := mkLst ok1 hp (by rw [List.length_reverse]; exact hl) (RelPs.rev rw_)
    rw [← eh]
    exact q1 vw' l' o es _ r'
  · exact q1.elim
end
end Ev
end S_Ev23
section S_Ev24
namespace Ev
open PySem PySem.Spec PyProof.Rows L2
/-! ### [x for a in .. for b in ..] without tests -/
section
variable {w : World} {K : PySem.W.Frag} {G : Nat → Addr} {E : WE} {g g1 : Tg} {ra : RX} {ri ri1 : RI}
def lc2In (g1 : Tg) (r : RX) : List PV → List PV → EE → Sto → Res (List PV)
  | [], acc, _, st => .ok acc st
  | y :: ys, acc, env, st => match g1.set (.p y) env with
    | none => .no
    | some e => (r e st).nox.bind fun z st1 => (match z with
        | .p z => if acc.length < 16777216 then lc2In g1 r ys (acc ++ [z]) env st1 else .no
        | _ => .no)
def lc2Go (g : Tg) (ri1 : RI) (g1 : Tg) (r : RX) (vs1 : List Nat) : List PV → List PV → EE → Sto → Res (List PV)
  | [], acc, _, st => .ok acc st
  | x :: xs, acc, env, st => match g.set (.p x) env with
    | none => .no
    | some e => (ri1 e st).nox.bind fun ys st1 => (lc2In g1 r ys acc (wipeE e vs1) st1).bind fun acc' st2 => lc2Go g ri1 g1 r vs1 xs acc' env st2
def rLc2 (vs vs1 : List Nat) (ri : RI) (g : Tg) (ri1 : RI) (g1 : Tg) (r : RX) : RX := fun env st => (ri env st).bind fun xs st1 => (lc2Go g ri1 g1 r vs1 xs [] (wipeE env vs) st1).bind fun ys st2 => .ok (.p (.lst ys)) st2
theorem ItOk.unhold {vw : Vw} {J : It} {xs : List PV} {F : Addr → Prop} (h : ItOk w K G vw J xs) : ItOk w K G (vw.unhold F) J xs :=
  ⟨fun i vw' l => h.go i vw' ⟨l.z, l.zr, l.ze, l.tu, l.fz⟩, fun i vw' l => h.stop i vw' ⟨l.z, l.zr, l.ze, l.tu, l.fz⟩, fun i vw' x H' l => h.yld i vw' x H' ⟨l.z, l.zr, l.ze, l.tu, l.fz⟩, fun i vw' x H' l => h.held i vw' x H' ⟨l.z, l.zr, l.ze, l.tu, l.fz⟩⟩
theorem lc2_read {vs vs1 : List Nat} {σ : SSt} {H : Hp} {Q : VK} (hsl : ∀ i ∈ g.slots, i ∈ vs) (hsl1 : ∀ i ∈ g1.slots, i ∈ vs1) (h : tE w K G E (rLc2 vs vs1 ri g ri1 g1 ra) σ H Q) :
    tLc2 (tI w K G E ri) (g.rd K) (tT w K G noE rYes) (tI w K G noE ri1) (g1.rd K) (tT w K G noE rYes) (tE w K G noE ra) vs vs1 σ H Q := by
  obtain ⟨vw0, env, eH, ok0, re0, q⟩ := h
  refine ⟨vw0, env, eH, ok0, re0, (GQ.bind q).imp fun vw1 xs l1 ok1 q1 J H1 ⟨vw2, eH2, l2, ok2, es2, it⟩ => fun D hD => ?_⟩
  subst eH2
  have re2 : RepE w K G vw2 env σ := (re0.mono l1).mono l2
  obtain ⟨l3, ok3, d3⟩ := newApart (o := .lst []) ok2 hD
  have hs : ∀ {vw : Vw}, Le K (vw2.grow D (.lst []) False) vw → RepE w K G vw (wipeE env vs) (L2.wipe σ vs) := fun l => ((re2.mono l3).mono l).wipe vs
  refine ⟨fun i m H => m = xs.length - i ∧ i ≤ xs.length ∧ ∃ vw acc us, vw.H = H ∧ VOk w K G vw ∧ Le K (vw2.grow D (.lst []) False) vw ∧ Apart vw D ∧ vw.H D = some (.lst us) ∧ us.length ≤ sizeLine ∧ RelPs w K G vw.H vw.Z acc us ∧
      GQ w K G vw (fun vw' => E vw' env) ((lc2Go g ri1 g1 ra vs1 (xs.drop i) acc (wipeE env vs) vw.st).bind fun ys st2 => (.ok (.p (.lst ys)) st2 : Res VV)) (fun vw' x => ∀ v, RelVV w K G vw' x v → Q v vw'.H),
    ⟨xs.length, by simp, Nat.zero_le _, vw2.grow D (.lst []) False, [], [], rfl, ok3, .rfl', d3, upd_same, Nat.zero_le _, RelPs.nil, ?_⟩, ?_⟩
  · rw [List.drop_zero]
    rw [← es2] at q1
    exact GQ.back (l2.trans l3) q1
  rintro i m H ⟨rfl, hi, vw, acc, us, rfl, ok, l, d, hDl, hus, rus, q⟩
  by_cases hlt : i < xs.length
  · have ed : xs.drop i = xs[i] :: xs.drop (i + 1) := List.drop_eq_getElem_cons hlt
    have l23 := l3.trans l
    refine .inr ⟨it.go i vw l23.lz ok hlt, fun H' => i + 1 ≤ xs.length ∧ ∃ vw acc us, vw.H = H' ∧ VOk w K G vw ∧ Le K (vw2.grow D (.lst []) False) vw ∧ Apart vw D ∧ vw.H D = some (.lst us) ∧ us.length ≤ sizeLine ∧ RelPs w K G vw.H vw.Z acc us ∧
      GQ w K G vw (fun vw' => E vw' env) ((lc2Go g ri1 g1 ra vs1 (xs.drop (i + 1)) acc (wipeE env vs) vw.st).bind fun ys st2 => (.ok (.p (.lst ys)) st2 : Res VV)) (fun vw' x => ∀ v, RelVV w K G vw' x v → Q v vw'.H),
      fun H' n => ⟨xs.length - (i + 1), by omega, rfl, n⟩, fun x H' y => ?_⟩
    have hh := it.held i vw x H' l23.lz ok y hlt D d.nn
    obtain ⟨vw4, rfl, l4, ok4, es4, hz4, r4⟩ := it.yld i vw x H' l23.lz ok y xs[i] (List.getElem?_eq_getElem hlt)
    have d4 : Apart vw4 D := Apart.yld (w := w) d l4 es4 hz4 hh
    rw [ed, lc2Go, ← es4] at q
    cases hge : g.set (.p xs[i]) (wipeE env vs) with
    | none => rw [hge] at q; exact q.elim
    | some e =>
      rw [hge] at q
      dsimp only at q
      rw [Res.bind_bind] at q
      refine Tg.read g (.p xs[i]) x (wipeE env vs) e (L2.wipe σ vs) r4 (hs (l.trans l4)) hge fun σ2 re2 hw => ⟨by rw [hw vs hsl, wipe_wipe], ?_⟩
      have reH : RepE w K G (vw4.hold D) e σ2 := ⟨re2.1, fun i x h => let ⟨v, a, b⟩ := re2.2 i x h; ⟨v, a, relVV_hold.mpr b⟩⟩
      refine ⟨vw4.hold D, e, rfl, ok4.hold d4, reH, fun vw5 l5 ok5 es5 => ?_⟩
      show (if (true : Bool) = true then _ else _)
      rw [if_pos rfl]
      refine ⟨vw5, e, rfl, ok5, reH.mono l5, ?_⟩
      rw [es5]
      show GQ w K G vw5 _ (ri1 e vw4.st) _
      generalize ri1 e vw4.st = r1 at q
      cases r1 with
      | ex c us st => exact q.elim
      | no => exact q.elim
      | ok ys st1 =>
        intro vw6 l6 ok6 es6 J1 H4 ⟨vw7, eH7, l7, ok7, es7, it1⟩
        subst eH7
        have q : GQ w K G vw (fun vw' => E vw' env) (((lc2In g1 ra ys acc (wipeE e vs1) st1).bind fun acc' st2 => lc2Go g ri1 g1 ra vs1 (xs.drop (i + 1)) acc' (wipeE env vs) st2).bind fun ys st2 => (.ok (.p (.lst ys)) st2 : Res VV)) (fun vw' x => ∀ v, RelVV w K G vw' x v → Q v vw'.H) := q
        rw [Res.bind_bind] at q
        have l57 := (l5.trans l6).trans l7
        have o7 := VOk.unhold l57 ok7
        obtain ⟨d7, e7⟩ := d4.still l57 ok7
        have l47 := Le.unhold l57
        have it2 : ItOk w K G (vw7.unhold vw4.F) J1 ys := it1.unhold
        have re7 : ∀ {vw : Vw}, Le K (vw7.unhold vw4.F) vw → RepE w K G vw (wipeE e vs1) (L2.wipe σ2 vs1) := fun l => ((re2.mono l47).mono l).wipe vs1
        refine ⟨fun j k H => k = ys.length - j ∧ j ≤ ys.length ∧ ∃ vw8 acc us, vw8.H = H ∧ VOk w K G vw8 ∧ Le K (vw7.unhold vw4.F) vw8 ∧ Apart vw8 D ∧ vw8.H D = some (.lst us) ∧ us.length ≤ sizeLine ∧ RelPs w K G vw8.H vw8.Z acc us ∧
            GQ w K G vw8 (fun vw' => E vw' env) ((lc2In g1 ra (ys.drop j) acc (wipeE e vs1) vw8.st).bind fun acc' st2 => (lc2Go g ri1 g1 ra vs1 (xs.drop (i + 1)) acc' (wipeE env vs) st2).bind fun ys st2 => (.ok (.p (.lst ys)) st2 : Res VV)) (fun vw' x => ∀ v, RelVV w K G vw' x v → Q v vw'.H),
          ⟨ys.length, by simp, Nat.zero_le _, vw7.unhold vw4.F, acc, us, rfl, o7, .rfl', d7, by show vw7.H D = _; rw [e7]; exact hh.trans hDl, hus, (l4.trans l47).ps rus, ?_⟩, ?_⟩
        · rw [List.drop_zero]
          show GQ w K G _ _ ((lc2In g1 ra ys acc (wipeE e vs1) vw7.st).bind _) _
          rw [es7, es6]
          exact GQ.back (l4.trans l47) q
        rintro j k H ⟨rfl, hj, vw8, acc8, us8, rfl, ok8, l8, d8, hD8, hus8, rus8, q8⟩
        by_cases hlt1 : j < ys.length
        · have ed1 : ys.drop j = ys[j] :: ys.drop (j + 1) := List.drop_eq_getElem_cons hlt1
          refine .inr ⟨it2.go j vw8 l8.lz ok8 hlt1, fun H' => j + 1 ≤ ys.length ∧ ∃ vw8 acc us, vw8.H = H' ∧ VOk w K G vw8 ∧ Le K (vw7.unhold vw4.F) vw8 ∧ Apart vw8 D ∧ vw8.H D = some (.lst us) ∧ us.length ≤ sizeLine ∧ RelPs w K G vw8.H vw8.Z acc us ∧
            GQ w K G vw8 (fun vw' => E vw' env) ((lc2In g1 ra (ys.drop (j + 1)) acc (wipeE e vs1) vw8.st).bind fun acc' st2 => (lc2Go g ri1 g1 ra vs1 (xs.drop (i + 1)) acc' (wipeE env vs) st2).bind fun ys st2 => (.ok (.p (.lst ys)) st2 : Res VV)) (fun vw' x => ∀ v, RelVV w K G vw' x v → Q v vw'.H),
            fun H' n => ⟨ys.length - (j + 1), by omega, rfl, n⟩, fun x' H' y' => ?_⟩
          have hh1 := it2.held j vw8 x' H' l8.lz ok8 y' hlt1 D d8.nn
          obtain ⟨vw9, rfl, l9, ok9, es9, hz9, r9⟩ := it2.yld j vw8 x' H' l8.lz ok8 y' ys[j] (List.getElem?_eq_getElem hlt1)
          have d9 : Apart vw9 D := Apart.yld (w := w) d8 l9 es9 hz9 hh1
          rw [ed1, lc2In, ← es9] at q8
          cases hge1 : g1.set (.p ys[j]) (wipeE e vs1) with
          | none => rw [hge1] at q8; exact q8.elim
          | some e1 =>
            rw [hge1] at q8
            dsimp only at q8
            rw [Res.bind_bind] at q8
            refine Tg.read g1 (.p ys[j]) x' (wipeE e vs1) e1 (L2.wipe σ2 vs1) r9 (re7 (l8.trans l9)) hge1 fun σ3 re3 hw1 => ⟨by rw [hw1 vs1 hsl1, wipe_wipe], ?_⟩
            have reH1 : RepE w K G (vw9.hold D) e1 σ3 := ⟨re3.1, fun i x h => let ⟨v, a, b⟩ := re3.2 i x h; ⟨v, a, relVV_hold.mpr b⟩⟩
            refine ⟨vw9.hold D, e1, rfl, ok9.hold d9, reH1, fun vwa la oka esa => ?_⟩
            show (if (true : Bool) = true then _ else _)
            rw [if_pos rfl]
            refine ⟨vwa, e1, rfl, oka, reH1.mono la, ?_⟩
            rw [esa]
            show GQ w K G vwa _ (ra e1 vw9.st) _
            generalize ra e1 vw9.st = r2 at q8
            cases r2 with
            | ex c us st => exact q8.elim
            | no => exact q8.elim
            | ok z st2 =>
              intro vwb lb okb esb v rv
              have lab := la.trans lb
              have ob := VOk.unhold lab okb
              obtain ⟨db, eb⟩ := d9.still lab okb
              cases z with
              | ref n => exact q8.elim
              | p z =>
                have q8 : GQ w K G vw8 (fun vw' => E vw' env) ((if acc8.length < 16777216 then lc2In g1 ra (ys.drop (j + 1)) (acc8 ++ [z]) (wipeE e vs1) st2 else .no).bind fun acc' st2 => (lc2Go g ri1 g1 ra vs1 (xs.drop (i + 1)) acc' (wipeE env vs) st2).bind fun ys st2 => (.ok (.p (.lst ys)) st2 : Res VV)) (fun vw' x => ∀ v, RelVV w K G vw' x v → Q v vw'.H) := q8
                split at q8
                · rename_i hac
                  have hDb : vwb.H D = some (.lst us8) := by rw [eb]; exact hh1.trans hD8
                  have lt : us8.length < sizeLine := by rw [← rus8.len]; exact hac
                  have lp := Le.put (K := K) (o := .lst (us8 ++ [v])) db hDb rfl
                  have op := VOk.put (o := .lst (us8 ++ [v])) ob db hDb rfl
                  have l9p := l9.trans ((Le.unhold lab).trans lp)
                  refine ⟨us8, hDb, lt, hlt1, (vwb.unhold vw9.F).put D (.lst (us8 ++ [v])), acc8 ++ [z], us8 ++ [v], rfl, op, l8.trans l9p, db.put, upd_same, by rw [List.length_append]; exact lt,
                    (l9p.ps rus8).app (RelPs.cons (lp.p rv) RelPs.nil), ?_⟩
                  show GQ w K G _ _ ((lc2In g1 ra (ys.drop (j + 1)) (acc8 ++ [z]) (wipeE e vs1) vwb.st).bind _) _
                  rw [esb]
                  exact GQ.back l9p q8
                · exact q8.elim
        · have e : j = ys.length := by omega
          subst e
          rw [List.drop_length, lc2In] at q8
          refine .inl ⟨it2.stop _ vw8 l8.lz ok8 rfl, hlt, vw8, acc8, us8, rfl, ok8, (l.trans l4).trans (l47.trans l8), d8, hD8, hus8, rus8, q8⟩
  · have e : i = xs.length := by omega
    subst e
    rw [List.drop_length, lc2Go] at q
    exact .inl ⟨it.stop _ vw (l3.trans l).lz ok rfl, mk_val _ Q acc vw D us ok d hDl hus rus q⟩
end
section
variable {X : Cx} {G : Nat → Addr} {E : WE} {pos : Pos} {elt tg it tg1 it1 : Expr} {ri ri1 : RI} {g g1 : Tg} {ra : RX}
theorem px_lc2 {scope : Scope} (own : List (Str × Nat)) (vs1 : List Nat) (hc : X.calm = true) (hN : X.N.Nodup) (hi : PXI X G E tg it ri) (ok : BlkOk X.N X.env.scope scope own) (hv : ∀ i ∈ vs1, i ∈ own.map (·.2)) (hsl : ∀ i ∈ g.slots, i ∈ own.map (·.2)) (hsl1 : ∀ i ∈ g1.slots, i ∈ vs1)
    (hg : ∀ (s : Shared) (H : Hp) (C : Addr) (cl : List (Str × Addr)) (fp : List Addr), PXG (X.blk s H scope (compEnvC scope cl C X.env) fp) tg g)
    (hi1 : ∀ (s : Shared) (H : Hp) (C : Addr) (cl : List (Str × Addr)) (fp : List Addr), PXI (X.blk s H scope (compEnvC scope cl C X.env) fp) G noE tg1 it1 ri1)
    (hg1 : ∀ (s : Shared) (H : Hp) (C : Addr) (cl : List (Str × Addr)) (fp : List Addr), PXG (X.blk s H scope (compEnvC scope cl C X.env) fp) tg1 g1)
    (he : ∀ (s : Shared) (H : Hp) (C : Addr) (cl : List (Str × Addr)) (fp : List Addr), PX (X.blk s H scope (compEnvC scope cl C X.env) fp) G noE elt ra) (hs : ∀ x, foldedSetIterable it X.env x = pure x := by intro _; rfl) (hs1 : ∀ env x, foldedSetIterable it1 env x = pure x := by intro _ _; rfl) :
    PX X G E (.ListComp elt [⟨tg, it, [], 0⟩, ⟨tg1, it1, [], 0⟩] scope pos) (rLc2 (own.map (·.2)) vs1 ri g ri1 g1 ra) :=
  (pe_lc2 hc hN hi ok hv hg (fun _ _ _ _ _ => pxif_nil) hi1 hg1 (fun _ _ _ _ _ => pxif_nil) he hs hs1).weak fun σ H Q h => lc2_read hsl hsl1 h
end
end Ev
end S_Ev24
section S_Ev25
namespace Ev
open PySem PySem.Spec PyProof.Rows L2
/-! ### == with a list of the store -/
def datV (st : Sto) : VV → Option PV
  | .p x => some x
  | .ref n => match st[n]? with
    | some (some (.lst _ xs)) => some (.lst xs)
    | _ => none
def pEqS (g : Bool → PV) (st : Sto) (x y : VV) : Option PV := match datV st x, datV st y with
  | some a, some b => (pEqD a b).map g
  | _, _ => none
theorem datV_dp {w : World} {K : PySem.W.Frag} {G : Nat → Addr} {vw : Vw} {z : VV} {v : V} {a : PV} {d : PyData} (ok : VOk w K G vw) (r : RelVV w K G vw z v) (h : datV vw.st z = some a) (hd : a.toD = some d) : Dp K vw.H v d := by
  cases z with
  | p x => cases h; exact RelP.dp _ v d r hd
  | ref n =>
    have h : (match vw.st[n]? with
      | some (some (.lst _ xs)) => some (PV.lst xs)
      | _ => none) = some a := h
    split at h
    · rename_i lk xs eo
      cases h
      rw [PV.toD] at hd
      obtain ⟨ds, e1, rfl⟩ := Option.map_eq_some_iff.mp hd
      obtain ⟨vs, h1, h2, h3⟩ := ok.ob n _ eo
      rw [r.2]
      exact .lst (.of h1) (RelPs.dps xs vs ds h3 e1)
    · cases h
section
variable {X : Cx} {G : Nat → Addr} {E : WE}
theorem eqS_read {w : World} {K : PySem.W.Frag} {g : Bool → PV} {f : Bool → Bool} (hg : ∀ b, g b = .bl (f b)) {x y : V} {H : Hp} {Q : VK} (h : q2s w K G (pEqS g) x y H Q) :
    ∃ d e, Dp K H x d ∧ Dp K H y e ∧ SeqAt.shaped d = true ∧ SeqAt.shaped e = true ∧ Q (.bl (f (PyData.eqv d e))) H := by
  obtain ⟨vw, a, b, z, eH, ok, ra, rb, e, q⟩ := h
  subst eH
  unfold pEqS at e
  split at e
  · rename_i a' b' e1 e2
    obtain ⟨c, ec, rfl⟩ := Option.map_eq_some_iff.mp e
    obtain ⟨d, e', g1, g2, h1, h2, h3⟩ := pEqD_d ec
    exact ⟨d, e', datV_dp ok ra e1 g1, datV_dp ok rb e2 g2, h1, h2, q vw _ .rfl' ok rfl (by rw [hg, h3]; exact relBl.mpr rfl)⟩
  · cases e
theorem opx_eqS (hu : X.A.units + 64 < cLine) : OpR X (compareOp .Eq) (q2s X.w X.K G (pEqS .bl)) := OpR.weak (op_eqD hu) fun x y H Q h => eqS_read (f := id) (fun _ => rfl) h
theorem opx_neS (hu : X.A.units + 64 < cLine) : OpR X (compareOp .NotEq) (q2s X.w X.K G (pEqS fun b => .bl (!b))) := OpR.weak (op_neD hu) fun x y H Q h => eqS_read (f := not) (fun _ => rfl) h
/-! ### names of functions and classes, of built-in types -/
theorem px_ty {x : Str} {n : String} {pos : Pos} (hg : Gl X x) (hm : X.mg x = none) (hv : bootBuiltins x = some (.type n)) (hn : x ≠ "__name__" := by decide) (hdb : (x == ("__debug__" : Str)) = false := by decide) : PX X G E (.Name x pos) (rC (.ty n)) :=
  (PE.weak (t := fun σ H Q => Q (.ty n) H) ⟨fun pins s σ H Q I h => ld_blt I hg hm hv ⟨.ty n, H, I, rfl, h⟩ hn hdb⟩ fun σ H Q ⟨vw, env, eH, ok, re, q⟩ => by
    subst eH
    exact q vw .rfl' ok rfl _ (show RelP X.w X.K G vw.H vw.Z (.ty n) (.ty n) by rw [RelP]))
theorem px_glb {x : Str} {c : Nat} {pos : Pos} {C : Addr} (hg : Gl X x) (hm : X.mg x = some (.ref C)) (hC : G c = C) (hd : (x == ("__debug__" : Str)) = false := by decide) : PX X G E (.Name x pos) (rC (.glb c)) :=
  px_glob (v := .ref C) hg hm rfl (fun H Z => by rw [RelP, hC]) hd
end
end Ev
end S_Ev25
section S_Ev26
namespace Ev
open PySem PySem.Spec PyProof.Rows L2
/-! ### shorter words -/
theorem hu65 {A : Around} {k : Nat} (hr : Room k A) : A.units + 65 < cLine := by have := hr.un; omega
theorem hu64 {A : Around} {k : Nat} (hr : Room k A) : A.units + 64 < cLine := by have := hr.un; omega
section
variable {X : Cx} {G : Nat → Addr} {E : WE} {pos : Pos}
theorem pxv (i : Nat) {x : Str} (hN : X.N[i]? = some x := by rfl) (hv : Vis X.env.scope x := by first | exact Or.inl rfl | exact Or.inr (Or.inl rfl) | exact Or.inr (Or.inr rfl)) (hd : (x == ("__debug__" : Str)) = false := by decide)
    (hcd : (x == ("__classdict__" : Str)) = false := by decide) : PX X G E (.Name x pos) (rVar i) := px_var hN hv hd hcd
theorem px_gint {x : Str} {i : Int} (hg : Gl X x) (hm : ∃ t, X.mg x = some (.int i t)) (hd : (x == ("__debug__" : Str)) = false := by decide) : PX X G E (.Name x pos) (rC (.int i)) :=
  let ⟨t, h⟩ := hm
  px_glob (v := .int i) hg h ⟨t, rfl⟩ (fun H Z => by rw [RelP]) hd
theorem px_gstr {x : Str} {z : Str} (hg : Gl X x) (hm : ∃ t, X.mg x = some (.str z t)) (hd : (x == ("__debug__" : Str)) = false := by decide) : PX X G E (.Name x pos) (rC (.str z)) :=
  let ⟨t, h⟩ := hm
  px_glob (v := .str z) hg h ⟨t, rfl⟩ (fun H Z => by rw [RelP]) hd
def sPar3 (i j l : Nat) (t : RA) : RS := fun env st => (t env st).toS env fun xs st1 => match xs with
  | [x, y, z] => .nx (((env.set i (some x)).set j (some y)).set l (some z)) st1
  | _ => .no
theorem pxs_par3 {i j l : Nat} {x y z : Str} {a b c : Expr} {t : RA} {px py pz pt pos : Pos} {kt k2 pt2} (hc : X.calm = true) (hN : X.N.Nodup) (hi : X.N[i]? = some x) (hj : X.N[j]? = some y) (hl : X.N[l]? = some z) (hij : i ≠ j) (hil : i ≠ l) (hjl : j ≠ l)
    (hx : X.env.scope.names.lookup x = some .local) (hy : X.env.scope.names.lookup y = some .local) (hz : X.env.scope.names.lookup z = some .local) (ha : PXA X G E [a, b, c] t)
    (hw : swappedStores [.Tuple [.Name x px, .Name y py, .Name z pz] kt pt] (.Tuple [a, b, c] k2 pt2) X.env = pure (some [x, y, z]))
    (hs : swapsWithSole [.Tuple [.Name x px, .Name y py, .Name z pz] kt pt] (.Tuple [a, b, c] k2 pt2) pos.line X.env = pure false := by rfl) :
    PXS X G E (.Assign [.Tuple [.Name x px, .Name y py, .Name z pz] kt pt] (.Tuple [a, b, c] k2 pt2) pos) (sPar3 i j l t) :=
  (ps_par3 hc hN hi hj hl hij hil hjl hx hy hz ha hw hs).weak fun D σ H ⟨vw, env, eH, ok, re, q⟩ => by
    refine ⟨vw, env, eH, ok, re, (GS.bind q).imp fun vw1 x l1 ok1 q1 vs rs => ?_⟩
    split at q1
    · rename_i x y z
      obtain ⟨v, r, rfl, r1, v2, r', rfl, r2, v3, r'', rfl, r3, rfl⟩ := rs
      exact ⟨v, v2, v3, rfl, q1 vw1 _ .rfl' ok1 rfl ((((re.mono l1).set r1).set r2).set r3)⟩
    · exact q1.elim
/-- x op= e, ints -/
def sAug (i : Nat) (p : Int → Int → Int) (r : RX) : RS := fun env st => match env[i]? with
  | some (some (.p (.int a))) => (r env st).toS env fun y st1 => match y with
    | .p (.int b) => .nx (env.set i (some (.p (.int (p a b))))) st1
    | _ => .no
  | _ => .no
theorem aug_read {w : World} {K : PySem.W.Frag} {i : Nat} {p : Int → Int → Int} {ra : RX} {D : Ends} {σ : SSt} {H : Hp} (h : tS w K G E (sAug i p ra) D σ H) : tAug i (tE w K G E ra) (ipI p) D σ H := by
  obtain ⟨vw, env, eH, ok, re, q⟩ := h
  unfold sAug at q
  split at q
  · rename_i a ha
    obtain ⟨v, ev, rv⟩ := re.2 i _ ha
    refine ⟨v, ev, vw, env, eH, ok, re, (GS.bind q).imp fun vw1 y l1 ok1 q1 u ru => ?_⟩
    split at q1
    · rename_i b
      rw [RelVV.int rv, RelVV.int ru]
      exact ⟨a, b, rfl, rfl, q1 vw1 _ .rfl' ok1 rfl ((re.mono l1).set vvInt)⟩
    · exact q1.elim
  · exact q.elim
theorem pxs_augAdd {i : Nat} {x : Str} {e : Expr} {ra : RX} {pos' : Pos} (hN : X.N.Nodup) (hi : X.N[i]? = some x) (hx : Loc X.env.scope x) (ha : PX X G E e ra) (hf : X.fn x = true ∨ X.env.scope.names.lookup x = some .local := by first | exact .inl rfl | exact .inr rfl | assumption) :
    PXS X G E (.AugAssign (.Name x pos') .Add e pos) (sAug i (fun a b => a + b) ra) := (ps_aug hN hi hx ha ip_add hf).weak fun D σ H h => aug_read h
theorem pxs_augSub {i : Nat} {x : Str} {e : Expr} {ra : RX} {pos' : Pos} (hN : X.N.Nodup) (hi : X.N[i]? = some x) (hx : Loc X.env.scope x) (ha : PX X G E e ra) (hf : X.fn x = true ∨ X.env.scope.names.lookup x = some .local := by first | exact .inl rfl | exact .inr rfl | assumption) :
    PXS X G E (.AugAssign (.Name x pos') .Sub e pos) (sAug i (fun a b => a - b) ra) := (ps_aug hN hi hx ha ip_sub hf).weak fun D σ H h => aug_read h
end
/-! ### the tests of built-in types -/
def isB : TC → TC → Option Bool
  | .ty a, .ty b =>
    if a ∈ ["NoneType", "bool", "int", "str", "tuple", "list", "dict"] then
      if b ∈ ["int", "bool", "str", "tuple", "list", "dict"] then some (decide (a = b) || (decide (a = "bool") && decide (b = "int"))) else none
    else none
  | _, _ => none
theorem isB_ok {K : PySem.W.Frag} {G : Nat → Addr} : IsT K G isB where
  one := fun t u b h => by
    cases t <;> cases u <;> try (cases h; done)
    rename_i a c
    have h : (if a ∈ ["NoneType", "bool", "int", "str", "tuple", "list", "dict"] then
      if c ∈ ["int", "bool", "str", "tuple", "list", "dict"] then some (decide (a = c) || (decide (a = "bool") && decide (c = "int"))) else none
      else none) = some b := h
    by_cases ha : a ∈ ["NoneType", "bool", "int", "str", "tuple", "list", "dict"]
    · rw [if_pos ha] at h
      by_cases hb : c ∈ ["int", "bool", "str", "tuple", "list", "dict"]
      · rw [if_pos hb] at h
        simp only [List.mem_cons, List.not_mem_nil, or_false] at ha hb
        injection h with h
        subst h
        rcases ha with rfl | rfl | rfl | rfl | rfl | rfl | rfl <;> rcases hb with rfl | rfl | rfl | rfl | rfl | rfl <;> kernel_rfl
      · rw [if_neg hb] at h; cases h
    · rw [if_neg ha] at h; cases h
  ins := fun c u b h => by cases h
end Ev
namespace Ev
open PySem PySem.Spec PyProof.Rows L2
section
variable {P : Program} {w : World} {K : PySem.W.Frag} {mg : Str → Option Value} {base : Heap} {G : Nat → Addr}
/-- a body keeps its promise, as the head's facts have the def -/
theorem fn_bodyD {x qual : Str} {st : Stmt} {f : Addr} {fd : FuncData} {N ps : List Str} {k : Nat} {rs : RS} (F : FunD K x qual (defArgs st) (defBody st) (defScope st) [] [] f fd) (S : FnScope N ps (defScope st))
    (hbody : ∀ (cdv : Value) (A : Around) (outer : List Env) (s : Shared) (H : Hp) (E : XK), Room k (A.deeper (envOfC qual (defScope st) s.heap.objs.size f cdv)) →
      Takes (cxOf (L2.CX P w) P w K mg base N qual (defScope st) f cdv A outer s H E) (wxE w K G (bodyE w K G E)) →
      PassesOwn (model P w) (A.deeper (envOfC qual (defScope st) s.heap.objs.size f cdv)) (envOfC qual (defScope st) s.heap.objs.size f cdv) (cxOf (L2.CX P w) P w K mg base N qual (defScope st) f cdv A outer s H E).xe →
      PXSs (cxOf (L2.CX P w) P w K mg base N qual (defScope st) f cdv A outer s H E) G (bodyE w K G E) (defBody st) rs) :
    FnOk P w K mg base (L2.CX P w) (k + 1) f fd ps (spM w K G ps.length (fnM N.length rs)) := by
  refine F.ok (N := N) S (fun vs H Q E h => h.1) fun cdv A outer s H vs Q E hr hsp => ?_
  obtain ⟨hl, vw, xs, eH, ok, r, q⟩ := hsp
  refine ⟨_, hbody cdv A outer s H E hr (takes_imp (takes_of rfl rfl rfl rfl) ?_) (passes_of rfl), vw, envOf N.length xs, eH, ok, rep_start r, ?_⟩
  · rintro cls d σ H' ⟨vw', env, c, us, rfl, ok', re', xr, h⟩
    exact h cls d xr
  · unfold fnM at q
    show GS w K G vw (bodyE w K G E) (rs (envOf N.length xs) vw.st) _
    generalize rs (envOf N.length xs) vw.st = r1 at q
    cases r1 with
    | nx e st' => exact fun vw' σ l o es _ => q vw' l o es _ (by rw [show RelVV w K G vw' (.p .non) V.non = RelP w K G vw'.H vw'.Z .non V.non from rfl, RelP])
    | rt x st' => exact fun vw' v l o es rv => q vw' l o es v rv
    | ex c us e st' => exact fun vw' l o es => q vw' l o es
    | bk e st' => exact q.elim
    | ct e st' => exact q.elim
    | no => exact q.elim
end
end Ev
end S_Ev26
section S_Ev27
namespace Ev
open PySem PySem.Spec PyProof.Rows L2
/-! ### list(range(a, b)) -/
section
variable {X : Cx} {G : Nat → Addr} {E : WE} {a b : Expr} {ra rb : RX} {p pos p2 pos2 : Pos}
def rLstRg (ra rb : RX) : RX := fun env st => (ra env st).bind fun x st1 => (rb env st1).bind fun y st2 => match x, y with
  | .p (.int i), .p (.int j) => bif inW i && (inW j && Nat.ble (j - i).toNat 16777216) then .ok (.p (.lst (upTo i (j - i).toNat))) st2 else .no
  | _, _ => .no
theorem upTo_rel {w : World} {K : PySem.W.Frag} {H : Hp} {Z : Addr → Prop} {i j : Int} : RelPs w K G H Z (upTo i (j - i).toNat) (rgV i j) := by
  unfold upTo rgV
  generalize List.range (j - i).toNat = l
  induction l with
  | nil => exact RelPs.nil
  | cons k l ih => exact RelPs.cons (relInt.mpr rfl) ih
theorem px_listRg (hc : X.calm = true) (hg : Gl X "list") (hm : X.mg "list" = none) (hg2 : Gl X "range") (hm2 : X.mg "range" = none) (ha : PX X G E a ra) (hb : PX X G E b rb) (na : starEach [a, b] X.env = (false, eval a X.env) :: starEach [b] X.env := by rfl)
    (nb : starEach [b] X.env = (false, eval b X.env) :: starEach [] X.env := by rfl) (hp : (backTo pos2 (starEach [b] X.env)).any (·.1) = false := by rfl) (na2 : starEach [.Call (.Name "range" p2) [a, b] [] pos2] X.env = (false, eval (.Call (.Name "range" p2) [a, b] [] pos2) X.env) :: starEach [] X.env := by rfl) :
    PX X G E (.Call (.Name "list" p) [.Call (.Name "range" p2) [a, b] [] pos2] [] pos) (rLstRg ra rb) := (pe_listRg hc hg hm (prg_2 hg2 hm2 ha hb na nb hp) na2).weak fun σ H Q ⟨vw, env, eH, ok, re, q⟩ => by
  refine ⟨vw, env, eH, ok, re, (GQ.bind q).imp fun vw1 x l1 ok1 q1 v rv => ⟨vw1, env, rfl, ok1, re.mono l1, (GQ.bind q1).imp fun vw2 y l2 ok2 q2 v2 rv2 => ?_⟩⟩
  split at q2
  · rename_i i j
    cases hh : inW i && (inW j && Nat.ble (j - i).toNat 16777216) with
    | false => rw [hh] at q2; exact q2.elim
    | true =>
      rw [hh, cond_true] at q2
      simp only [Bool.and_eq_true] at hh
      have h3 := Nat.le_of_ble_eq_true hh.2.2
      refine ⟨i, j, RelVV.int rv, RelVV.int rv2, ⟨(inW_b hh.1).1, (inW_b hh.1).2, (inW_b hh.2.1).1, (inW_b hh.2.1).2, h3⟩, fun pp hp => ?_⟩
      obtain ⟨vw', eh, l', o, es, r'⟩ := mkLst ok2 hp (by rw [rgV_length, sizeLine_eq]; exact h3) upTo_rel
      rw [← eh]
      exact q2 vw' l' o es _ r'
  · exact q2.elim
/-! ### a dict display of constants -/
def kvP (kvs : List (Key × PV)) : List PV × List PV := kvs.foldl (fun acc kv => if fHas acc.1 kv.1 = true then (acc.1, fRep acc.1 acc.2 kv.1 kv.2) else (acc.1 ++ [kP kv.1], acc.2 ++ [kv.2])) ([], [])
def rDictC (kvs : List (Key × PV)) : RX := fun _ st => .ok (.ref st.length) (st ++ [some (.dct false false (kvP kvs).1 (kvP kvs).2)])
def scalP : PV → Option V
  | .int i => some (.int i)
  | .str x => some (.str x)
  | .bl b => some (.bl b)
  | .non => some .non
  | _ => none
def kvV : List (Key × PV) → Option (List (Key × V))
  | [] => some []
  | (k, x) :: r => match scalP x, kvV r with
    | some v, some vs => some ((k, v) :: vs)
    | _, _ => none
theorem scalP_rel {w : World} {K : PySem.W.Frag} {H : Hp} {Z : Addr → Prop} {x : PV} {v : V} (h : scalP x = some v) : RelP w K G H Z x v := by
  cases x <;> first | (cases h; rw [RelP]; done) | (cases h; done)
theorem tPairs_const {trs : List (TE × TE)} {kvs : List (Key × V)} (h : trs = kvs.map fun kv => (tC (kV kv.1), tC kv.2)) {σ : SSt} {H : Hp} {Q : List (V × V) → Hp → Prop} (q : Q (kvs.map fun kv => (kV kv.1, kv.2)) H) : tPairs trs σ H Q := by
  subst h
  induction kvs generalizing Q with
  | nil => exact q
  | cons kv kvs ih => exact ih (Q := fun ps H3 => Q ((kV kv.1, kv.2) :: ps) H3) q
theorem merge_rel {w : World} {K : PySem.W.Frag} {H : Hp} {Z : Addr → Prop} : ∀ (kvs : List (Key × PV)) (vs acc : List (Key × V)) (us : List PV), kvV kvs = some vs → RelPs w K G H Z us (acc.map (·.2)) →
    ∃ ks' us', kvs.foldl (fun acc kv => if fHas acc.1 kv.1 = true then (acc.1, fRep acc.1 acc.2 kv.1 kv.2) else (acc.1 ++ [kP kv.1], acc.2 ++ [kv.2])) (acc.map (fun kv => kP kv.1), us) = (ks', us') ∧ ks' = (mergeK acc vs).map (fun kv => kP kv.1) ∧ RelPs w K G H Z us' ((mergeK acc vs).map (·.2))
  | [], vs, acc, us, h, r => by cases h; exact ⟨_, _, rfl, rfl, r⟩
  | (k, x) :: kvs, vs, acc, us, h, r => by
    unfold kvV at h
    split at h
    · rename_i v vs' e1 e2
      cases h
      obtain ⟨ks', us', f1, f2, f3⟩ := fput_rel (j := k) r (scalP_rel (w := w) (K := K) (G := G) (H := H) (Z := Z) e1)
      rw [List.foldl_cons]
      dsimp only
      rw [f1, f2]
      exact merge_rel kvs vs' _ us' e2 f3
    · cases h
theorem px_dictC {keys : List (Option Expr)} {values : List Expr} {trs : List (TE × TE)} {kvs : List (Key × PV)} {vs : List (Key × V)} (h : PPs X pos keys values trs) (hall : keys.all (·.isSome) = true) (hl : keys.length = values.length) (h0 : keys ≠ [])
    (h15 : keys.length ≤ 15) (hk : kvs.length ≤ 15) (hv : kvV kvs = some vs) (ht : trs = vs.map fun kv => (tC (kV kv.1), tC kv.2)) : PX X G E (.Dict keys values pos) (rDictC kvs) := (pe_disp h hall hl h0 h15).weak fun σ H Q ⟨vw, env, eH, ok, re, q⟩ => by
  subst eH
  intro p hp
  have hlen : ∀ (kvs : List (Key × PV)) (vs : List (Key × V)), kvV kvs = some vs → vs.length = kvs.length := by
    intro kvs
    induction kvs with
    | nil => intro vs h; cases h; rfl
    | cons kv kvs ih =>
      intro vs h
      obtain ⟨k, x⟩ := kv
      unfold kvV at h
      split at h
      · rename_i v vs' e1 e2
        cases h
        rw [List.length_cons, List.length_cons, ih vs' e2]
      · cases h
  refine tPairs_const ht ⟨upd_same, vs, rfl, by rw [hlen kvs vs hv]; exact hk, ?_⟩
  obtain ⟨ks', us', f1, f2, f3⟩ := merge_rel (w := X.w) (K := X.K) (G := G) (H := vw.H) (Z := vw.Z) kvs vs [] [] hv RelPs.nil
  have e1 : kvP kvs = (ks', us') := f1
  have l := Le.alloc (K := X.K) (o := .dK (mergeK [] vs)) (ob := .dct false false (kvP kvs).1 (kvP kvs).2) ok hp
  have hH : upd (upd vw.H p (.dK [])) p (.dK (mergeK [] vs)) = upd vw.H p (.dK (mergeK [] vs)) := by
    funext b
    by_cases e : b = p
    · subst e; rw [upd_same, upd_same]
    · rw [upd_ne e, upd_ne e, upd_ne e]
  rw [hH]
  exact q (vw.alloc p (.dK (mergeK [] vs)) (.dct false false (kvP kvs).1 (kvP kvs).2)) l (VOk.alloc ok hp ⟨mergeK [] vs, upd_same, by rw [e1]; exact f2, by rw [e1]; exact l.ps f3⟩) rfl _ vvNew
end
end Ev
end S_Ev27
section S_Ev28
namespace Ev
open PySem PySem.Spec PyProof.Rows L2 PySem.W
/-! ### min of nested tuples -/
section
variable {X : Cx} {G : Nat → Addr} {E : WE}
def minF (n : PV) (ns : List PV) : PV := ns.foldl (fun m y => match cmpF y m with
  | .lt => y
  | _ => m) n
def bMinD : MF := fun xs st => match xs with
  | [z] => (match seqOf st z with
    | some (_, n :: ns) => if oneSh (n :: ns) = true ∧ ((n :: ns).all fun x => decide ((encD x).depth ≤ 8)) = true then .ok (.p (minF n ns)) st else .no
    | _ => .no)
  | _ => .no
theorem dataLt_cmp {x y : PV} (h : sameSh x y = true) : dataLt (encD x) (encD y) = (match cmpF x y with
  | .lt => true
  | _ => false) := by
  have e := cmpF_lx x y [] [] h
  rw [List.append_nil, List.append_nil] at e
  show lxI (keyToks (encD x)) (keyToks (encD y)) = _
  rw [e]
  cases cmpF x y <;> rfl
theorem minF_mem (n : PV) : ∀ ns : List PV, minF n ns ∈ n :: ns := fun ns => by
  unfold minF
  induction ns generalizing n with
  | nil => exact List.mem_cons_self
  | cons y ns ih =>
    rw [List.foldl_cons]
    have := ih (match cmpF y n with | .lt => y | _ => n)
    rcases List.mem_cons.mp this with h | h
    · rw [h]
      cases cmpF y n
      · exact List.mem_cons_of_mem _ List.mem_cons_self
      · exact List.mem_cons_self
      · exact List.mem_cons_self
    · exact List.mem_cons_of_mem _ (List.mem_cons_of_mem _ h)
theorem minF_d : ∀ (ns : List PV) (n : PV), (∀ a ∈ n :: ns, ∀ b ∈ n :: ns, sameSh a b = true) → minD (encD n) (ns.map encD) = encD (minF n ns)
  | [], n, _ => rfl
  | y :: ns, n, h => by
    have hy : sameSh y n = true := h y (List.mem_cons_of_mem _ List.mem_cons_self) n List.mem_cons_self
    show minD (if dataLt (encD y) (encD n) then encD y else encD n) (ns.map encD) = encD (minF (match cmpF y n with | .lt => y | _ => n) ns)
    rw [dataLt_cmp hy]
    cases cmpF y n
    · exact minF_d ns y fun a ha b hb => h a (by rcases List.mem_cons.mp ha with rfl | ha <;> simp_all) b (by rcases List.mem_cons.mp hb with rfl | hb <;> simp_all)
    · exact minF_d ns n fun a ha b hb => h a (by rcases List.mem_cons.mp ha with rfl | ha <;> simp_all) b (by rcases List.mem_cons.mp hb with rfl | hb <;> simp_all)
    · exact minF_d ns n fun a ha b hb => h a (by rcases List.mem_cons.mp ha with rfl | ha <;> simp_all) b (by rcases List.mem_cons.mp hb with rfl | hb <;> simp_all)
theorem depthAll_le {n : Nat} : ∀ {xs : List PyData}, (∀ x ∈ xs, x.depth ≤ n) → PyData.depthAll xs ≤ n
  | [], _ => by rw [PyData.depthAll]; exact Nat.zero_le _
  | x :: xs, h => by
    rw [PyData.depthAll]
    have h1 := h x List.mem_cons_self
    have h2 := depthAll_le (xs := xs) fun y hy => h y (List.mem_cons_of_mem _ hy)
    omega
theorem alike_map {ys : List PV} (h : ∀ a ∈ ys, ∀ b ∈ ys, sameSh a b = true) : AlikeAll (ys.map encD) ∧ ∀ x ∈ ys, x.toD ≠ none := by
  refine ⟨⟨fun d hd d' hd' => ?_, fun d hd e => ?_⟩, fun x hx e => ?_⟩
  · obtain ⟨x, hx, rfl⟩ := List.mem_map.mp hd
    obtain ⟨y, hy, rfl⟩ := List.mem_map.mp hd'
    obtain ⟨d, d', e1, e2, e3⟩ := sameSh_d x y (h x hx y hy)
    unfold encD
    rw [e1, e2]
    exact e3
  · obtain ⟨x, hx, rfl⟩ := List.mem_map.mp hd
    have := h x hx x hx
    cases x <;> simp [sameSh] at this
    · simp [encD, PV.toD] at e
    · simp [encD, PV.toD] at e
    · obtain ⟨ds, _, e1, _⟩ := sameShs_d _ _ this
      simp [encD, PV.toD, e1] at e
  · obtain ⟨d, _, e1, _⟩ := sameSh_d x x (h x hx x hx)
    rw [e] at e1
    cases e1
theorem reads_each {h : Heap} {us : List Value} : ∀ {xs : List PV}, EachIs (fun u x => ∃ as, Reads h u (encD x) as) us xs → ∃ as, ReadsAll h us (xs.map encD) as := by
  intro xs e
  induction e with
  | nil => exact ⟨[], .nil⟩
  | cons a b ih =>
    obtain ⟨as, r⟩ := a
    obtain ⟨bs, q⟩ := ih
    exact ⟨_, .cons r q⟩
theorem cb_minD (hu : X.A.units + 65 < cLine) (hc : X.calm = true) : CallR X (.builtin "min") (qB X.w X.K G bMinD) := by
  rintro pins s σ H vs us Q I r ⟨vw, xs, rfl, ok, rs, q⟩
  unfold bMinD at q
  split at q
  · obtain ⟨v, _, rfl, rv, rfl⟩ := rs
    split at q
    · rename_i b n ns e
      split at q
      · rename_i hcd
        obtain ⟨p, ws, rfl, hl, rw_, h⟩ := seqOf_both ok rv e
        rw [Vals.ref1 r]
        have al := oneSh_all hcd.1
        obtain ⟨ala, td⟩ := alike_map al
        have hd : X.A.units + 1 + PyData.depthAll (encD n :: ns.map encD) < cLine := by
          have : PyData.depthAll ((n :: ns).map encD) ≤ 8 := depthAll_le fun d hd => by
            obtain ⟨x, hx, rfl⟩ := List.mem_map.mp hd
            exact of_decide_eq_true (List.all_eq_true.mp hcd.2 x hx)
          rw [List.map_cons] at this
          omega
        have fin : ∀ (its : List Value), Vals ws its → (∀ (i : Nat) (v : Value) h' tk bs, its[i]? = some v → Reads h' v (minD (encD n) (ns.map encD)) bs → (∀ b o, s.heap.get? b = some o → h'.get? b = some o) → EP X pins σ Q v { s with heap := h', toks := tk }) := fun its rvs i v h' tk bs hi rd hk => by
          rw [minF_d ns n al] at rd
          have eR := each_rel rw_ rvs
          have pick : ∀ {us : List Value} {xs : List PV} {i : Nat} {v : Value}, EachIs (fun u x => ∃ v, RelV v u ∧ RelP X.w X.K G vw.H vw.Z x v) us xs → us[i]? = some v → ∃ x ∈ xs, ∃ w, RelV w v ∧ RelP X.w X.K G vw.H vw.Z x w := by
            intro us xs i v e hi
            induction e generalizing i with
            | nil => simp at hi
            | cons a b ih =>
              cases i with
              | zero => simp at hi; subst hi; exact ⟨_, List.mem_cons_self, a⟩
              | succ i =>
                obtain ⟨x, hx, q⟩ := ih (by simpa using hi)
                exact ⟨x, List.mem_cons_of_mem _ hx, q⟩
          obtain ⟨x, hx, w, rw1, rw2⟩ := pick eR hi
          cases ed : x.toD with
          | none => exact absurd ed (td x hx)
          | some d =>
            obtain ⟨as, r1⟩ := Dp.reads I d w v (RelP.dp x w d rw2 ed) rw1
            obtain ⟨e1, _⟩ := PyProof.Rows.reads_det (fun b o e _ => hk b o e) r1 rd
            have e2 : encD x = encD (minF n ns) := by rw [e1]; unfold encD; rw [ed]; rfl
            have e3 : x = minF n ns := (toks_inj x (minF n ns) [] [] (al x hx _ (minF_mem n ns)) (by rw [e2])).1
            subst e3
            exact ⟨w, vw.H, I.kept hk, rw1, q vw .rfl' ok rfl _ rw2⟩
        rcases h with h | h
        · obtain ⟨its, rvs, ht, _⟩ := I.list h
          obtain ⟨as, hr⟩ := reads_each (each_reads I td (each_rel rw_ rvs))
          exact min_list_data (I.ok.hd hc) ht.isList (by simpa using hr) ala hd fun i v h' tk bs hi rd hk => fin its rvs i v h' tk bs (by simpa using hi) rd hk
        · obtain ⟨its, rvs, ht, _⟩ := I.tuple h
          obtain ⟨as, hr⟩ := reads_each (each_reads I td (each_rel rw_ rvs))
          exact min_tuple_data (I.ok.hd hc) ht (by simpa using hr) ala hd fun i v h' tk bs hi rd hk => fin its rvs i v h' tk bs (by simpa using hi) rd hk
      · exact q.elim
    · exact q.elim
  · exact q.elim
/-! ### xs.index(x), flat items -/
def idxP (x : PV) : List PV → Option Nat
  | [] => none
  | y :: ys => bif eqF y x then some 0 else (idxP x ys).map (· + 1)
def bIndex : MF := fun xs st => match xs with
  | [z, .p x] => (match seqOf st z with
    | some (true, ys) => bif x.flat && ys.all PV.flat then (match idxP x ys with
      | some j => .ok (.p (.int (j : Nat))) st
      | none => .no) else .no
    | _ => .no)
  | _ => .no
theorem idxP_at {x : PV} : ∀ {ys : List PV} {j : Nat}, idxP x ys = some j → (∃ y, ys[j]? = some y ∧ eqF y x = true) ∧ ∀ m y, m < j → ys[m]? = some y → eqF y x = false
  | [], j, h => by cases h
  | y :: ys, j, h => by
    unfold idxP at h
    cases c : eqF y x with
    | true =>
      rw [c] at h
      cases h
      exact ⟨⟨y, rfl, c⟩, fun m _ hm => absurd hm (Nat.not_lt_zero _)⟩
    | false =>
      rw [c, cond_false] at h
      obtain ⟨i, e, rfl⟩ := Option.map_eq_some_iff.mp h
      obtain ⟨⟨z, h1, h2⟩, h3⟩ := idxP_at e
      refine ⟨⟨z, by simpa using h1, h2⟩, fun m w hm hw => ?_⟩
      cases m with
      | zero => simp at hw; subst hw; exact c
      | succ m => exact h3 m w (by omega) (by simpa using hw)
theorem RelPs.getB {w : World} {K : PySem.W.Frag} {H : Hp} {Z : Addr → Prop} : ∀ {xs : List PV} {vs : List V} {i : Nat} {v : V}, RelPs w K G H Z xs vs → vs[i]? = some v → ∃ x, xs[i]? = some x ∧ RelP w K G H Z x v
  | [], vs, i, v, h, e => by rw [RelPs] at h; subst h; simp at e
  | x :: xs, _, 0, v, h, e => by
    rw [RelPs] at h
    obtain ⟨u, r, rfl, h1, h2⟩ := h
    simp at e; subst e
    exact ⟨x, rfl, h1⟩
  | x :: xs, _, i + 1, v, h, e => by
    rw [RelPs] at h
    obtain ⟨u, r, rfl, h1, h2⟩ := h
    obtain ⟨y, e1, e2⟩ := RelPs.getB (i := i) h2 (by simpa using e)
    exact ⟨y, by simpa using e1, e2⟩
theorem mb_index : MB X G "list.index" bIndex := by
  rintro pins s σ H x vs u us Q I ru rus ⟨vw, xs, rfl, ok, rs, q⟩
  unfold bIndex at q
  split at q
  · rename_i z y
    obtain ⟨_, _, e0, rz, v1, _, rfl, ry, rfl⟩ := rs
    cases e0
    split at q
    · rename_i ys e
      cases c : y.flat && ys.all PV.flat with
      | false => rw [c] at q; exact q.elim
      | true =>
        rw [c, cond_true] at q
        rw [Bool.and_eq_true] at c
        split at q
        · rename_i j hj
          obtain ⟨p, ws, rfl, hl, rw_, h⟩ := seqOf_rel ok rz e
          rw [if_pos rfl] at h
          have ry : RelP X.w X.K G vw.H vw.Z y v1 := ry
          obtain ⟨⟨z0, h1, h2⟩, h3⟩ := idxP_at hj
          obtain ⟨v0, g1, g2⟩ := rw_.get h1
          have f0 := List.all_eq_true.mp c.2
          refine mt_index pins s σ vw.H _ _ _ _ Q I ru rus ⟨p, ws, v1, j, v0, rfl, rfl, h, flat_rel ry c.1, flats_rel rw_ c.2, g1, ?_, fun m z' hm hz' => ?_, q vw .rfl' ok rfl _ vvInt⟩
          · rw [eqF_rel g2 ry (f0 z0 (List.mem_of_getElem? h1)) c.1]; exact h2
          · obtain ⟨y', k1, k2⟩ := RelPs.getB rw_ hz'
            rw [eqF_rel k2 ry (f0 y' (List.mem_of_getElem? k1)) c.1]
            exact h3 m y' hm k1
        · exact q.elim
    · exact q.elim
  · exact q.elim
variable {pos p apos cpos : Pos} {o e : Expr} {es : List Expr} {t : RA} {ra : RX}
theorem px_index (ho : PX X G E o ra) (ha : PXA X G E [e] t)
    (hbase : attributeBase o "index" X.env (eval o X.env) = eval o X.env := by rfl)
    (hfew : ((backTo cpos (starEach [e] X.env)).all (fun x => !x.1) && (backToKw cpos (keywordEach [] X.env)).all (fun x => x.1.isSome)
      && decide (([e] : List Expr).length + ([] : List Keyword).length + (if ([] : List Keyword).isEmpty then 0 else 1) < 30)) = true := by rfl)
    (hline : (apos.endLine == cpos.line) = true := by rfl) (hs : starEach [e] X.env = (false, eval e X.env) :: starEach [] X.env := by rfl) (hplain : (backTo cpos (starEach [] X.env)).any (·.1) = false := by rfl) :
    PX X G E (.Call (.Attribute o "index" apos) [e] [] cpos) (rBM isL bIndex ra t) := px_bm tyL PySem.F.plainAttrs_list PySem.F.slot_list_index PySem.F.type_list_index mb_index ho ha hbase hfew hline hs hplain
/-! ### a tuple of texts that the module names -/
def tupB (K : PySem.W.Frag) (x : Str) (ns : List Str) : Bool := match PySem.W.nsIn K mainGlobals x with
  | some (some (.ref a)) => (match K.lookup a with
    | some ⟨.type c, _, .seq its _, _⟩ => decide (c = "tuple") && He.relAll (ns.map V.str) its.toList
    | _ => false)
  | _ => false
theorem tupB_ok {K : PySem.W.Frag} {h : Heap} {mg : Str → Option Value} (X : K.In h) (G' : h.Ns mainGlobals mg) {x : Str} {ns : List Str} (hb : tupB K x ns = true) (hl : ns.length ≤ 1000) : ∃ a, mg x = some (.ref a) ∧ ∀ H, SqT K H a (ns.map V.str) := by
  unfold tupB at hb
  split at hb
  · rename_i a e
    split at hb
    · rename_i c dd its n sl e2
      rw [Bool.and_eq_true] at hb
      have hc : c = "tuple" := of_decide_eq_true hb.1
      subst hc
      have hv := He.relAll_ok hb.2
      refine ⟨a, PySem.W.mg_of X G' e, fun H => .inr ⟨_, its, n, e2, rfl, rfl, ?_, hv⟩⟩
      have := hv.length
      rw [List.length_map] at this
      have e3 : its.size = ns.length := by rw [this]; simp
      rw [e3, sizeLine_eq]
      omega
    · cases hb
  · cases hb
theorem rel_strs {w : World} {K : PySem.W.Frag} {H : Hp} {Z : Addr → Prop} : ∀ ns : List Str, RelPs w K G H Z (ns.map PV.str) (ns.map V.str)
  | [] => RelPs.nil
  | n :: ns => RelPs.cons (by rw [RelP]) (rel_strs ns)
theorem px_gtup {x : Str} {ns : List Str} (hg : Gl X x) (hm : ∃ a, X.mg x = some (.ref a) ∧ ∀ H, SqT X.K H a (ns.map V.str)) (hl : ns.length ≤ 1000) (hd : (x == ("__debug__" : Str)) = false := by decide) : PX X G E (.Name x pos) (rC (.tup (ns.map PV.str))) :=
  let ⟨a, h, hs⟩ := hm
  px_glob (v := .ref a) hg h rfl (fun H Z => by
    rw [RelP]
    exact ⟨a, _, rfl, hs H, by rw [List.length_map, sizeLine_eq]; omega, rel_strs ns⟩) hd
end
end Ev
end S_Ev28
section S_EvS
namespace Ev
open PySem PySem.Spec PyProof.Rows L2
/-! ### readings, step by step -/
section
variable {α β : Type} {env e1 : EE} {st st1 st2 : Sto} {r ra rb rc : RX} {t : RA} {ta tb : RT} {x y : VV} {a b c : PV} {xs : List VV} {ys : List PV}
theorem bind_of {r : Res α} {x : α} {k : α → Sto → Res β} (h : r = .ok x st) : r.bind k = k x st := by rw [h]; rfl
theorem toS_of {r : Res α} {x : α} {k : α → Sto → SRes} (h : r = .ok x st) : r.toS env k = k x st := by rw [h]; rfl
@[simp] theorem bind_ok' {x : α} {k : α → Sto → Res β} : (Res.ok x st).bind k = k x st := rfl
@[simp] theorem bind_ex' {c : Nat} {us : List PV} {k : α → Sto → Res β} : (Res.ex c us st : Res α).bind k = .ex c us st := rfl
@[simp] theorem toS_ok' {x : α} {k : α → Sto → SRes} : (Res.ok x st).toS env k = k x st := rfl
@[simp] theorem toS_ex' {c : Nat} {us : List PV} {k : α → Sto → SRes} : (Res.ex c us st : Res α).toS env k = .ex c us env st := rfl
@[simp] theorem nox_ok' {x : α} : (Res.ok x st).nox = .ok x st := rfl
theorem v_of {i : Nat} (h : env[i]? = some (some x)) : rVar i env st = .ok x st := by unfold rVar; rw [h]
theorem c_of : rC a env st = .ok (.p a) st := rfl
theorem op_of {p : PV → PV → Option PV} (h1 : ra env st = .ok (.p a) st1) (h2 : rb env st1 = .ok (.p b) st2) (h : p a b = some c) : r2 p ra rb env st = .ok (.p c) st2 := by
  unfold r2; rw [h1]; show (rb env st1).bind _ = _; rw [h2]; show (match p a b with | some z => _ | none => _) = _; rw [h]
theorem ops_of {p : Sto → VV → VV → Option PV} (h1 : ra env st = .ok x st1) (h2 : rb env st1 = .ok y st2) (h : p st2 x y = some c) : r2s p ra rb env st = .ok (.p c) st2 := by
  unfold r2s; rw [h1]; show (rb env st1).bind _ = _; rw [h2]; show (match p st2 x y with | some z => _ | none => _) = _; rw [h]
theorem un_of {p : PV → Option PV} (h1 : ra env st = .ok (.p a) st1) (h : p a = some c) : r1 p ra env st = .ok (.p c) st1 := by
  unfold r1; rw [h1]; show (match p a with | some z => _ | none => _) = _; rw [h]
theorem nil_of : rNil env st = .ok [] st := rfl
theorem cons_of (h1 : r env st = .ok x st1) (h2 : t env st1 = .ok xs st2) : rCons r t env st = .ok (x :: xs) st2 := by
  unfold rCons; rw [h1]; show (t env st1).bind _ = _; rw [h2]; rfl
theorem one_of (h1 : r env st = .ok x st1) : rCons r rNil env st = .ok [x] st1 := cons_of h1 rfl
theorem two_of {r' : RX} {x' : VV} (h1 : r env st = .ok x st1) (h2 : r' env st1 = .ok x' st2) : rCons r (rCons r' rNil) env st = .ok [x, x'] st2 := cons_of h1 (one_of h2)
theorem three_of {r' r'' : RX} {x' x'' : VV} {st3 : Sto} (h1 : r env st = .ok x st1) (h2 : r' env st1 = .ok x' st2) (h3 : r'' env st2 = .ok x'' st3) : rCons r (rCons r' (rCons r'' rNil)) env st = .ok [x, x', x''] st3 := cons_of h1 (two_of h2 h3)
theorem call_of {F : MF} {n : Nat} {z : VV} (h1 : t env st = .ok xs st1) (h : F xs st1 = .ok z st2) (hn : xs.length = n := by rfl) : rCall (rArity n F) t env st = .ok z st2 := by
  unfold rCall rArity; rw [h1]; show (if xs.length = n then F xs st1 else .no) = _; rw [if_pos hn]; exact h
theorem cb_of {B : MF} {z : VV} (h1 : t env st = .ok xs st1) (h : B xs st1 = .ok z st2) : rCB B t env st = .ok z st2 := by
  unfold rCB; rw [h1]; show (B xs st1).nox = _; rw [h]; rfl
theorem bm_of {tok : Sto → VV → Bool} {B : MF} {z w : VV} (h1 : ra env st = .ok z st1) (ht : tok st1 z = true) (h2 : t env st1 = .ok xs st2) {st3 : Sto} (h : B (z :: xs) st2 = .ok w st3) : rBM tok B ra t env st = .ok w st3 := by
  unfold rBM; rw [h1]; show (if tok st1 z = true then _ else _) = _; rw [if_pos ht, h2]; show (B (z :: xs) st2).nox = _; rw [h]; rfl
theorem tst_of {b : Bool} (h : r env st = .ok (.p (.bl b)) st1) : rTst r env st = .ok b st1 := by unfold rTst; rw [h]; rfl
theorem not_of {b : Bool} (h : ta env st = .ok b st1) : rNot ta env st = .ok (!b) st1 := by unfold rNot; rw [h]; rfl
theorem tup_of (h : t env st = .ok xs st1) (h2 : toPs xs = some ys) (hl : ys.length ≤ 16777216 := by exact Nat.le_of_ble_eq_true rfl) : rTup t env st = .ok (.p (.tup ys)) st1 := by
  unfold rTup; rw [h]; show (match toPs xs with | some ys => _ | none => _) = _; rw [h2]; show (if ys.length ≤ 16777216 then _ else _) = _; rw [if_pos hl]
theorem lst_of (h : t env st = .ok xs st1) (h2 : toPs xs = some ys) (hl : ys.length ≤ 16777216 := by exact Nat.le_of_ble_eq_true rfl) : rLst t env st = .ok (.p (.lst ys)) st1 := by
  unfold rLst; rw [h]; show (match toPs xs with | some ys => _ | none => _) = _; rw [h2]; show (if ys.length ≤ 16777216 then _ else _) = _; rw [if_pos hl]
theorem if_of_true {z : VV} (h : ta env st = .ok true st1) (h1 : ra env st1 = .ok z st2) : rIf ta ra rb env st = .ok z st2 := by unfold rIf; rw [h]; exact h1
theorem if_of_false {z : VV} (h : ta env st = .ok false st1) (h1 : rb env st1 = .ok z st2) : rIf ta ra rb env st = .ok z st2 := by unfold rIf; rw [h]; exact h1
theorem if_of {b : Bool} {z : VV} (h : ta env st = .ok b st1) (h1 : b = true → ra env st1 = .ok z st2) (h2 : b = false → rb env st1 = .ok z st2) : rIf ta ra rb env st = .ok z st2 := by
  cases b with
  | true => exact if_of_true h (h1 rfl)
  | false => exact if_of_false h (h2 rfl)
theorem and_of {a b : Bool} (h1 : ta env st = .ok a st1) (h2 : a = true → tb env st1 = .ok b st1) : rAnd ta tb env st = .ok (a && b) st1 := by
  unfold rAnd; rw [h1]
  cases a with
  | true => exact h2 rfl
  | false => rfl
theorem or_of {a b : Bool} (h1 : ta env st = .ok a st1) (h2 : a = false → tb env st1 = .ok b st1) : rOr ta tb env st = .ok (a || b) st1 := by
  unfold rOr; rw [h1]
  cases a with
  | false => exact h2 rfl
  | true => rfl
theorem andV_of {a b : Bool} (h1 : ra env st = .ok (.p (.bl a)) st1) (h2 : a = true → rb env st1 = .ok (.p (.bl b)) st1) : rAndV ra rb env st = .ok (.p (.bl (a && b))) st1 := by
  unfold rAndV; rw [h1]
  cases a with
  | true => exact h2 rfl
  | false => rfl
theorem orV_of {a b : Bool} (h1 : ra env st = .ok (.p (.bl a)) st1) (h2 : a = false → rb env st1 = .ok (.p (.bl b)) st1) : rOrV ra rb env st = .ok (.p (.bl (a || b))) st1 := by
  unfold rOrV; rw [h1]
  cases a with
  | false => exact h2 rfl
  | true => rfl
theorem notV_of {a : Bool} (h1 : ra env st = .ok (.p (.bl a)) st1) : rNotV ra env st = .ok (.p (.bl (!a))) st1 := by unfold rNotV; rw [h1]; rfl
theorem fld_of {okc : Nat → Bool} {f : Str} {c : Nat} {fs : List Str} {us : List PV} {u : PV} (h : ra env st = .ok (.p (.ins c fs us)) st1) (hc : okc c = true) (hu : lkP fs us f = some u) : rFld okc f ra env st = .ok (.p u) st1 := by
  unfold rFld; rw [h]; show (if okc c = true then _ else _) = _; rw [if_pos hc, hu]
theorem items_lst (h : r env st = .ok (.p (.lst ys)) st1) : rItems r env st = .ok ys st1 := by unfold rItems; rw [h]; rfl
theorem items_tup (h : r env st = .ok (.p (.tup ys)) st1) : rItems r env st = .ok ys st1 := by unfold rItems; rw [h]; rfl
theorem items_lsf (h : r env st = .ok (.p (.lsf ys)) st1) : rItems r env st = .ok ys st1 := by unfold rItems; rw [h]; rfl
theorem part_of {i : Int} (h : r env st = .ok (.p (.int i)) st1) : rPart r env st = .ok (some i) st1 := by unfold rPart; rw [h]; rfl
theorem sl_of {rl rh : RO} {l h : Option Int} {st3 : Sto} (h1 : ra env st = .ok (.p a) st1) (h2 : rl env st1 = .ok l st2) (h3 : rh env st2 = .ok h st3) (hz : pSl a l h = some c) : rSl ra rl rh env st = .ok (.p c) st3 := by
  unfold rSl; rw [h1]; show (rl env st1).bind _ = _; rw [h2]; show (rh env st2).bind _ = _; rw [h3]; show (match pSl a l h with | some z => _ | none => _) = _; rw [hz]
theorem enum_lst (h : t env st = .ok [.p (.lst ys)] st1) : rEnum t env st = .ok (enumF 0 ys) st1 := by unfold rEnum; rw [h]; rfl
theorem enum_tup (h : t env st = .ok [.p (.tup ys)] st1) : rEnum t env st = .ok (enumF 0 ys) st1 := by unfold rEnum; rw [h]; rfl
theorem zip_of {zs : List PV} {p q : Bool} (h : t env st = .ok [.p a, .p b] st1) (h1 : seqP a = some (p, ys)) (h2 : seqP b = some (q, zs)) : rZip t env st = .ok (zipF ys zs) st1 := by
  unfold rZip; rw [h]; show (match seqP a, seqP b with | some (_, xs), some (_, ys) => _ | _, _ => _) = _; rw [h1, h2]
theorem ix_p {k : PV} {z : PV} (h1 : ra env st = .ok (.p a) st1) (h2 : rb env st1 = .ok (.p k) st2) (h : pIx st2 (.p a) (.p k) = some z) : r2s pIx ra rb env st = .ok (.p z) st2 := ops_of h1 h2 h
theorem ch_of {p p' : PV → PV → Option PV} {u v : Bool} (h1 : ra env st = .ok (.p a) st1) (h2 : rb env st1 = .ok (.p b) st2) (hp : p a b = some (.bl u)) (h3 : u = true → rc env st2 = .ok (.p c) st2 ∧ p' b c = some (.bl v)) : rCh p p' ra rb rc env st = .ok (.p (.bl (u && v))) st2 := by
  unfold rCh
  rw [h1]; simp only [bind_ok']
  rw [h2]; simp only [bind_ok', hp]
  cases u with
  | true =>
    obtain ⟨h4, h5⟩ := h3 rfl
    show ((rc env st2).bind _) = _
    rw [h4]; simp only [bind_ok', h5]
    rfl
  | false => rfl
/-! statements -/
theorem seq_of {s s' : RS} (h : s env st = .nx e1 st1) : sSeq s s' env st = s' e1 st1 := by unfold sSeq; rw [h]
theorem seq_rt {s s' : RS} (h : s env st = .rt x st1) : sSeq s s' env st = .rt x st1 := by unfold sSeq; rw [h]
theorem seq_bk {s s' : RS} (h : s env st = .bk e1 st1) : sSeq s s' env st = .bk e1 st1 := by unfold sSeq; rw [h]
theorem seq_ct {s s' : RS} (h : s env st = .ct e1 st1) : sSeq s s' env st = .ct e1 st1 := by unfold sSeq; rw [h]
theorem seq_ex {s s' : RS} {k : Nat} {us : List PV} (h : s env st = .ex k us e1 st1) : sSeq s s' env st = .ex k us e1 st1 := by unfold sSeq; rw [h]
theorem ret_of (h : r env st = .ok x st1) : sRet r env st = .rt x st1 := by unfold sRet; rw [h]; rfl
theorem asg_of {g : Tg} (h : r env st = .ok x st1) (hg : g.set x env = some e1) : sAsg r g env st = .nx e1 st1 := by
  unfold sAsg; rw [h]; show (match g.set x env with | some e => _ | none => _) = _; rw [hg]
theorem asg_nm {i : Nat} (h : r env st = .ok x st1) (hi : i < env.length) : sAsg r (.nm i) env st = .nx (env.set i (some x)) st1 := asg_of h (if_pos hi)
theorem expr_of (h : r env st = .ok x st1) : sExpr r env st = .nx env st1 := by unfold sExpr; rw [h]; rfl
theorem sif_true {s s' : RS} (h : ta env st = .ok true st1) : sIf ta s s' env st = s env st1 := by unfold sIf; rw [h]; rfl
theorem sif_false {s s' : RS} (h : ta env st = .ok false st1) : sIf ta s s' env st = s' env st1 := by unfold sIf; rw [h]; rfl
theorem for_of {ri : RI} {g : Tg} {bd : RS} (h : ri env st = .ok ys st1) : sFor ri g bd env st = forGo g bd ys env st1 := by unfold sFor; rw [h]; rfl
theorem for_nil {g : Tg} {bd : RS} : forGo g bd [] env st = .nx env st := rfl
theorem for_nx {g : Tg} {bd : RS} {e2 : EE} (hg : g.set (.p a) env = some e1) (h : bd e1 st = .nx e2 st1) : forGo g bd (a :: ys) env st = forGo g bd ys e2 st1 := by
  rw [forGo, hg]; show (match bd e1 st with | .nx e st => _ | .ct e st => _ | .bk e st => _ | r => _) = _; rw [h]
theorem for_ct {g : Tg} {bd : RS} {e2 : EE} (hg : g.set (.p a) env = some e1) (h : bd e1 st = .ct e2 st1) : forGo g bd (a :: ys) env st = forGo g bd ys e2 st1 := by
  rw [forGo, hg]; show (match bd e1 st with | .nx e st => _ | .ct e st => _ | .bk e st => _ | r => _) = _; rw [h]
theorem for_bk {g : Tg} {bd : RS} {e2 : EE} (hg : g.set (.p a) env = some e1) (h : bd e1 st = .bk e2 st1) : forGo g bd (a :: ys) env st = .nx e2 st1 := by
  rw [forGo, hg]; show (match bd e1 st with | .nx e st => _ | .ct e st => _ | .bk e st => _ | r => _) = _; rw [h]
theorem for_rt {g : Tg} {bd : RS} (hg : g.set (.p a) env = some e1) (h : bd e1 st = .rt x st1) : forGo g bd (a :: ys) env st = .rt x st1 := by
  rw [forGo, hg]; show (match bd e1 st with | .nx e st => _ | .ct e st => _ | .bk e st => _ | r => _) = _; rw [h]
theorem for_ex {g : Tg} {bd : RS} {k : Nat} {us : List PV} {e2 : EE} (hg : g.set (.p a) env = some e1) (h : bd e1 st = .ex k us e2 st1) : forGo g bd (a :: ys) env st = .ex k us e2 st1 := by
  rw [forGo, hg]; show (match bd e1 st with | .nx e st => _ | .ct e st => _ | .bk e st => _ | r => _) = _; rw [h]
end
/-! ### defs -/
theorem pure_rt {n : Nat} {b : RS} {xs : List PV} {z : PV} {st' : Sto} (h : b (envOf n (xs.map VV.p)) [] = .rt (.p z) st') (st : Sto) : liftP (pureOf (fnM n b)) (xs.map .p) st = .ok (.p z) st := by
  have e : toPs (xs.map VV.p) = some xs := by
    induction xs with
    | nil => rfl
    | cons x xs ih =>
      have ih : ∀ h' : True, toPs (xs.map VV.p) = some xs := fun _ => by
        clear ih h
        induction xs with
        | nil => rfl
        | cons y ys ih => show (toPs (ys.map VV.p)).map (y :: ·) = _; rw [ih]; rfl
      show (toPs (xs.map VV.p)).map (x :: ·) = _
      rw [ih trivial]; rfl
  unfold liftP
  rw [e]
  show (match pureOf (fnM n b) xs with | .ok z => _ | .ex c us => _ | .no => _) = _
  unfold pureOf fnM
  rw [h]
theorem toPs_map : ∀ xs : List PV, toPs (xs.map VV.p) = some xs
  | [] => rfl
  | x :: xs => by show (toPs (xs.map VV.p)).map (x :: ·) = _; rw [toPs_map xs]; rfl
theorem pure_ex {n : Nat} {b : RS} {xs : List PV} {c : Nat} {us : List PV} {e' : EE} {st' : Sto} (h : b (envOf n (xs.map VV.p)) [] = .ex c us e' st') (st : Sto) : liftP (pureOf (fnM n b)) (xs.map .p) st = .ex c us st := by
  unfold liftP
  rw [toPs_map]
  show (match pureOf (fnM n b) xs with | .ok z => _ | .ex c us => _ | .no => _) = _
  unfold pureOf fnM
  rw [h]
theorem pure_nx {n : Nat} {b : RS} {xs : List PV} {e' : EE} {st' : Sto} (h : b (envOf n (xs.map VV.p)) [] = .nx e' st') (st : Sto) : liftP (pureOf (fnM n b)) (xs.map .p) st = .ok (.p .non) st := by
  unfold liftP
  rw [toPs_map]
  show (match pureOf (fnM n b) xs with | .ok z => _ | .ex c us => _ | .no => _) = _
  unfold pureOf fnM
  rw [h]
/-! ### comprehensions -/
theorem lcGo_of {α : Type} {i : Nat} {t : RT} {r : RX} {env : EE} {st : Sto} (hi : i < env.length) (e : α → PV) (p : α → Bool) (f : α → PV) : ∀ (ys : List α) (acc : List PV) (env' : EE), env'.set i none = env.set i none →
    (∀ y ∈ ys, t (env.set i (some (.p (e y)))) st = .ok (p y) st ∧ (p y = true → r (env.set i (some (.p (e y)))) st = .ok (.p (f y)) st)) → acc.length + ys.length ≤ 16777216 →
    lcGo (.nm i) t r (ys.map e) acc env' st = .ok (acc ++ (ys.filter p).map f) st
  | [], acc, env', he, h, hl => by rw [List.map_nil, lcGo, List.filter_nil, List.map_nil, List.append_nil]
  | y :: ys, acc, env', he, h, hl => by
    have hlen : env'.length = env.length := by have := congrArg List.length he; simpa using this
    have e2 : env'.set i (some (.p (e y))) = env.set i (some (.p (e y))) := by
      rw [← List.set_set (a := none) (b := some (VV.p (e y))), he, List.set_set]
    have hs : (Tg.nm i).set (.p (e y)) env' = some (env.set i (some (.p (e y)))) := by
      show (if i < env'.length then some (env'.set i _) else none) = _
      rw [if_pos (by omega), e2]
    obtain ⟨h1, h2⟩ := h y List.mem_cons_self
    rw [List.map_cons, lcGo, hs]
    show ((t _ st).nox.bind _) = _
    rw [h1]
    show (if p y = true then _ else _) = _
    have hrec := fun acc' hl' => lcGo_of hi e p f ys acc' env' he (fun z hz => h z (List.mem_cons_of_mem _ hz)) hl'
    rw [List.length_cons] at hl
    by_cases hp : p y = true
    · rw [if_pos hp, h2 hp]
      show (if acc.length < 16777216 then _ else _) = _
      rw [if_pos (by omega), hrec _ (by rw [List.length_append]; simp; omega), List.filter_cons, if_pos hp, List.map_cons, List.append_assoc]
      rfl
    · rw [if_neg hp, hrec _ (by omega), List.filter_cons, if_neg hp]
theorem lc_of {α : Type} {i : Nat} {ri : RI} {t : RT} {r : RX} {env : EE} {st st1 : Sto} (ys : List α) (e : α → PV) (p : α → Bool) (f : α → PV) (hr : ri env st = .ok (ys.map e) st1) (hi : i < env.length)
    (h : ∀ y ∈ ys, t (env.set i (some (.p (e y)))) st1 = .ok (p y) st1 ∧ (p y = true → r (env.set i (some (.p (e y)))) st1 = .ok (.p (f y)) st1)) (hl : ys.length ≤ 16777216) :
    rLc [i] ri (.nm i) t r env st = .ok (.p (.lst ((ys.filter p).map f))) st1 := by
  unfold rLc lcR
  rw [hr]
  show ((lcGo (.nm i) t r (ys.map e) [] (wipeE env [i]) st1).bind _) = _
  rw [lcGo_of hi e p f ys [] (wipeE env [i]) (by show (env.set i none).set i none = _; rw [List.set_set]) h (by simpa using hl)]
  rfl
/-- without a test -/
theorem lc_map {α : Type} {i : Nat} {ri : RI} {r : RX} {env : EE} {st st1 : Sto} (ys : List α) (e : α → PV) (f : α → PV) (hr : ri env st = .ok (ys.map e) st1) (hi : i < env.length)
    (h : ∀ y ∈ ys, r (env.set i (some (.p (e y)))) st1 = .ok (.p (f y)) st1) (hl : ys.length ≤ 16777216) :
    rLc [i] ri (.nm i) rYes r env st = .ok (.p (.lst (ys.map f))) st1 := by
  have := lc_of (t := rYes) ys e (fun _ => true) f hr hi (fun y hy => ⟨rfl, fun _ => h y hy⟩) hl
  rw [List.filter_eq_self.mpr (fun _ _ => rfl)] at this
  exact this
theorem lcGo_two {α : Type} {i j : Nat} {t : RT} {r : RX} {env : EE} {st : Sto} (hi : i < env.length) (hj : j < env.length) (hij : i ≠ j) (e1 e2 : α → PV) (p : α → Bool) (f : α → PV) : ∀ (ys : List α) (acc : List PV) (env' : EE), (env'.set i none).set j none = (env.set i none).set j none →
    (∀ y ∈ ys, t ((env.set i (some (.p (e1 y)))).set j (some (.p (e2 y)))) st = .ok (p y) st ∧ (p y = true → r ((env.set i (some (.p (e1 y)))).set j (some (.p (e2 y)))) st = .ok (.p (f y)) st)) → acc.length + ys.length ≤ 16777216 →
    lcGo (.cons (.nm i) (.cons (.nm j) .nil)) t r (ys.map fun y => .tup [e1 y, e2 y]) acc env' st = .ok (acc ++ (ys.filter p).map f) st
  | [], acc, env', he, h, hl => by rw [List.map_nil, lcGo, List.filter_nil, List.map_nil, List.append_nil]
  | y :: ys, acc, env', he, h, hl => by
    have hlen : env'.length = env.length := by have := congrArg List.length he; simpa using this
    have e3 : (env'.set i (some (.p (e1 y)))).set j (some (.p (e2 y))) = (env.set i (some (.p (e1 y)))).set j (some (.p (e2 y))) := by
      have q : ∀ E : EE, (E.set i (some (.p (e1 y)))).set j (some (.p (e2 y))) = (((E.set i none).set j none).set i (some (.p (e1 y)))).set j (some (.p (e2 y))) := fun E => by
        rw [List.set_comm _ _ (Ne.symm hij), List.set_set, List.set_comm _ _ hij, List.set_set, List.set_comm _ _ (Ne.symm hij)]
        try rfl
      rw [q env', he, ← q env]
    have hs : (Tg.cons (.nm i) (.cons (.nm j) .nil)).set (.p (.tup [e1 y, e2 y])) env' = some ((env.set i (some (.p (e1 y)))).set j (some (.p (e2 y)))) := by
      show ((if i < env'.length then some (env'.set i _) else none).bind fun E => (if j < E.length then some (E.set j (some (.p (e2 y)))) else none).bind fun E => some E) = _
      rw [if_pos (by omega)]
      show ((if j < (env'.set i _).length then _ else none).bind fun E => some E) = _
      rw [if_pos (by simp; omega), e3]
      rfl
    obtain ⟨h1, h2⟩ := h y List.mem_cons_self
    rw [List.map_cons, lcGo, hs]
    show ((t _ st).nox.bind _) = _
    rw [h1]
    show (if p y = true then _ else _) = _
    have hrec := fun acc' hl' => lcGo_two hi hj hij e1 e2 p f ys acc' env' he (fun z hz => h z (List.mem_cons_of_mem _ hz)) hl'
    rw [List.length_cons] at hl
    by_cases hp : p y = true
    · rw [if_pos hp, h2 hp]
      show (if acc.length < 16777216 then _ else _) = _
      rw [if_pos (by omega), hrec _ (by rw [List.length_append]; simp; omega), List.filter_cons, if_pos hp, List.map_cons, List.append_assoc]
      rfl
    · rw [if_neg hp, hrec _ (by omega), List.filter_cons, if_neg hp]
theorem lc2_of {α : Type} {i j : Nat} {ri : RI} {t : RT} {r : RX} {env : EE} {st st1 : Sto} (ys : List α) (e1 e2 : α → PV) (p : α → Bool) (f : α → PV) (hr : ri env st = .ok (ys.map fun y => .tup [e1 y, e2 y]) st1) (hi : i < env.length) (hj : j < env.length) (hij : i ≠ j)
    (h : ∀ y ∈ ys, t ((env.set i (some (.p (e1 y)))).set j (some (.p (e2 y)))) st1 = .ok (p y) st1 ∧ (p y = true → r ((env.set i (some (.p (e1 y)))).set j (some (.p (e2 y)))) st1 = .ok (.p (f y)) st1)) (hl : ys.length ≤ 16777216) :
    rLc [i, j] ri (.cons (.nm i) (.cons (.nm j) .nil)) t r env st = .ok (.p (.lst ((ys.filter p).map f))) st1 := by
  unfold rLc lcR
  rw [hr]
  show ((lcGo _ t r _ [] (wipeE env [i, j]) st1).bind _) = _
  rw [lcGo_two hi hj hij e1 e2 p f ys [] (wipeE env [i, j]) (by
    show ((((env.set j none).set i none).set i none).set j none) = _
    rw [List.set_set, List.set_comm _ _ (Ne.symm hij), List.set_set]) h (by simpa using hl)]
  rfl
end Ev
end S_EvS
section S_EvT
namespace Ev
open PySem PySem.Spec PyProof.Rows L2
/-! ### ints, slices, ranges -/
theorem atI_nat' {α : Type} (xs : List α) (k : Nat) : atI xs (k : Int) = xs[k]? := by
  unfold atI ixN
  rw [if_pos (by omega)]
  by_cases h : k < xs.length
  · rw [if_pos (by omega)]
    simp
  · rw [if_neg (by omega), List.getElem?_eq_none (by omega)]
    rfl
theorem ix_tup_nat {st : Sto} {xs : List PV} {k : Nat} {z : PV} (h : xs[k]? = some z) : pIx st (.p (.tup xs)) (.p (.int (k : Int))) = some z := by
  show atI xs (k : Int) = _; rw [atI_nat', h]
theorem ix_lst_nat {st : Sto} {xs : List PV} {k : Nat} {z : PV} (h : xs[k]? = some z) : pIx st (.p (.lst xs)) (.p (.int (k : Int))) = some z := by
  show atI xs (k : Int) = _; rw [atI_nat', h]
theorem cut_nat (xs : List PV) (a b : Nat) : cutP xs (some (a : Int)) (some (b : Int)) = (xs.drop a).take (b - a) := by
  unfold cutP
  rw [HT.sIx_nat, HT.sIx_nat]
  by_cases h : a ≤ xs.length
  · rw [Nat.min_eq_left h]
    by_cases h2 : b ≤ xs.length
    · rw [Nat.min_eq_left h2]
    · rw [Nat.min_eq_right (by omega), List.take_of_length_le (by simp), List.take_of_length_le (by simp; omega)]
  · rw [Nat.min_eq_right (by omega : xs.length ≤ a), List.drop_eq_nil_of_le (Nat.le_refl _), List.drop_eq_nil_of_le (by omega : xs.length ≤ a)]
    simp
theorem cut_to (xs : List PV) (b : Nat) : cutP xs none (some (b : Int)) = xs.take b := by
  unfold cutP
  rw [HT.sIx_nat, HT.sIx_none, List.drop_zero, Nat.sub_zero]
  by_cases h2 : b ≤ xs.length
  · rw [Nat.min_eq_left h2]
  · rw [Nat.min_eq_right (by omega), List.take_of_length_le (Nat.le_refl _), List.take_of_length_le (by omega)]
theorem cut_from (xs : List PV) (a : Nat) : cutP xs (some (a : Int)) none = xs.drop a := by
  unfold cutP
  rw [HT.sIx_nat, HT.sIx_none]
  by_cases h : a ≤ xs.length
  · rw [Nat.min_eq_left h, List.take_of_length_le (by simp)]
  · rw [Nat.min_eq_right (by omega : xs.length ≤ a), List.drop_eq_nil_of_le (Nat.le_refl _), List.drop_eq_nil_of_le (by omega : xs.length ≤ a)]
    simp
theorem nopart_of {env : EE} {st : Sto} : rNoPart env st = .ok none st := rfl
theorem upTo0 (n : Nat) : upTo 0 n = (List.range n).map fun k : Nat => PV.int (k : Int) := by
  unfold upTo
  simp
theorem upToN (a n : Nat) : upTo (a : Int) n = ((List.range n).map (a + ·)).map fun k : Nat => PV.int (k : Int) := by
  unfold upTo
  rw [List.map_map]
  simp
theorem range1_of {env : EE} {st st1 : Sto} {t : RA} {n : Nat} (h : t env st = .ok [.p (.int (n : Int))] st1) (hn : n ≤ 100000) : rRange1 t env st = .ok ((List.range n).map fun k : Nat => PV.int (k : Int)) st1 := by
  unfold rRange1
  rw [h]
  simp only [bind_ok']
  rw [inW_nat (by omega), cond_true, Int.toNat_natCast, upTo0]
theorem range2_of {env : EE} {st st1 : Sto} {t : RA} {a b : Nat} (h : t env st = .ok [.p (.int (a : Int)), .p (.int (b : Int))] st1) (ha : a ≤ 1000) (hb : b ≤ 1000) : rRange2 t env st = .ok (((List.range (b - a)).map (a + ·)).map fun k : Nat => PV.int (k : Int)) st1 := by
  unfold rRange2
  rw [h]
  simp only [bind_ok']
  rw [inW_nat (by omega), inW_nat (by omega), Bool.and_true, cond_true, show ((b : Int) - (a : Int)).toNat = b - a by omega, upToN]
theorem lstRg_of {env : EE} {st st1 st2 : Sto} {ra rb : RX} {a b : Nat} (h1 : ra env st = .ok (.p (.int (a : Int))) st1) (h2 : rb env st1 = .ok (.p (.int (b : Int))) st2) (ha : a ≤ 1000) (hb : b ≤ 1000) :
    rLstRg ra rb env st = .ok (.p (.lst (((List.range (b - a)).map (a + ·)).map fun k : Nat => PV.int (k : Int)))) st2 := by
  unfold rLstRg
  rw [h1]
  simp only [bind_ok']
  rw [h2]
  simp only [bind_ok']
  rw [show ((b : Int) - (a : Int)).toNat = b - a by omega, inW_nat (by omega), inW_nat (by omega), Nat.ble_eq_true_of_le (by omega : b - a ≤ 16777216), Bool.and_true, Bool.and_true, cond_true, upToN]
theorem sum_of {st : Sto} {z : VV} {b : Bool} {ys : List PV} {ns : List Int} (h : seqOf st z = some (b, ys)) (h2 : intsOf ys = some ns) : bSum [z] st = .ok (.p (.int ns.sum)) st := by
  unfold bSum; simp only [h, h2]
theorem all_of {st : Sto} {z : VV} {ys : List PV} {ns : List Bool} (h : seqOf st z = some (true, ys)) (h2 : blsOf ys = some ns) : bAll [z] st = .ok (.p (.bl (ns.all id))) st := by
  unfold bAll; simp only [h, h2]
theorem any_of {st : Sto} {z : VV} {ys : List PV} {ns : List Bool} (h : seqOf st z = some (true, ys)) (h2 : blsOf ys = some ns) : bAny [z] st = .ok (.p (.bl (ns.any id))) st := by
  unfold bAny; simp only [h, h2]
theorem intsOf_map {α : Type} (f : α → Int) : ∀ xs : List α, intsOf (xs.map fun x => PV.int (f x)) = some (xs.map f)
  | [] => rfl
  | x :: xs => by rw [List.map_cons, intsOf, intsOf_map f xs]; rfl
theorem blsOf_map {α : Type} (f : α → Bool) : ∀ xs : List α, blsOf (xs.map fun x => PV.bl (f x)) = some (xs.map f)
  | [] => rfl
  | x :: xs => by rw [List.map_cons, blsOf, blsOf_map f xs]; rfl
theorem len_seq {st : Sto} {z : VV} {b : Bool} {ys : List PV} (h : seqOf st z = some (b, ys)) : bLen [z] st = .ok (.p (.int ys.length)) st := by
  unfold bLen
  split
  · rename_i q; injection q with q1 q2; subst q1; cases h
  · rename_i q; injection q with q1 q2; subst q1; simp only [h]
  · rename_i q1 q2; exact absurd rfl (q2 z)
theorem tuple_seq {st : Sto} {z : VV} {b : Bool} {ys : List PV} (h : seqOf st z = some (b, ys)) : bTuple [z] st = .ok (.p (.tup ys)) st := by
  unfold bTuple; simp only [h]
theorem list_seq {st : Sto} {z : VV} {b : Bool} {ys : List PV} (h : seqOf st z = some (b, ys)) : bList [z] st = .ok (.p (.lst ys)) st := by
  unfold bList; simp only [h]
theorem sorted_seq' {st : Sto} {z : VV} {b : Bool} {ys zs : List PV} (h : seqOf st z = some (b, ys)) (h2 : pSort ys = some zs) : bSorted [z] st = .ok (.p (.lst zs)) st := by
  unfold bSorted; simp only [h, h2]
theorem eqInt (i j : Int) : pEq (.int i) (.int j) = some (.bl (decide (i = j))) := rfl
theorem enum_map {α : Type} (e : α → PV) : ∀ (xs : List α) (k : Nat), enumF k (xs.map e) = (xs.zipIdx k).map fun p : α × Nat => PV.tup [.int ((p.2 : Nat) : Int), e p.1]
  | [], k => rfl
  | x :: xs, k => by rw [List.map_cons, enumF, List.zipIdx_cons, List.map_cons, enum_map e xs (k + 1)]
theorem zip_map {α β : Type} (e : α → PV) (f : β → PV) : ∀ (xs : List α) (ys : List β), zipF (xs.map e) (ys.map f) = (xs.zip ys).map fun p : α × β => PV.tup [e p.1, f p.2]
  | [], ys => by cases ys <;> rfl
  | x :: xs, [] => rfl
  | x :: xs, y :: ys => by rw [List.map_cons, List.map_cons, zipF, List.zip_cons_cons, List.map_cons, zip_map e f xs ys]
theorem lt {i n : Nat} (h : Nat.ble (i + 1) n = true) : i < n := Nat.le_of_ble_eq_true h
theorem add_tup {xs ys : List PV} (h : xs.length + ys.length ≤ 16777216) : pAdd (.tup xs) (.tup ys) = some (.tup (xs ++ ys)) := by
  show (if xs.length + ys.length ≤ sizeLine then some (PV.tup (xs ++ ys)) else none) = _
  rw [if_pos (by rw [sizeLine_eq]; exact h)]
theorem mul_tup {xs : List PV} {k : Int} (h1 : 1 ≤ k) (h2 : k ≤ 1000) (h3 : xs.length ≤ 1000) : pMul (.tup xs) (.int k) = some (.tup (List.replicate k.toNat xs).flatten) := by
  show (if 1 ≤ k ∧ k ≤ 1000 ∧ xs.length ≤ 1000 then some (PV.tup (List.replicate k.toNat xs).flatten) else none) = _
  rw [if_pos ⟨h1, h2, h3⟩]
/-! ### two clauses -/
theorem lc2In_of {β : Type} {j : Nat} {r : RX} {env : EE} {st : Sto} (hj : j < env.length) (e2 : β → PV) (f : β → PV) : ∀ (ys : List β) (acc : List PV),
    (∀ y ∈ ys, r (env.set j (some (.p (e2 y)))) st = .ok (.p (f y)) st) → acc.length + ys.length ≤ 16777216 → lc2In (.nm j) r (ys.map e2) acc env st = .ok (acc ++ ys.map f) st
  | [], acc, h, hl => by rw [List.map_nil, lc2In, List.map_nil, List.append_nil]
  | y :: ys, acc, h, hl => by
    rw [List.length_cons] at hl
    rw [List.map_cons, lc2In, show (Tg.nm j).set (.p (e2 y)) env = some (env.set j (some (.p (e2 y)))) from if_pos hj]
    show ((r _ st).nox.bind _) = _
    rw [h y List.mem_cons_self]
    show (if acc.length < 16777216 then _ else _) = _
    rw [if_pos (by omega), lc2In_of hj e2 f ys _ (fun z hz => h z (List.mem_cons_of_mem _ hz)) (by rw [List.length_append]; simp; omega), List.map_cons, List.append_assoc]
    rfl
theorem lc2Go_of {α β : Type} {i j : Nat} {ri1 : RI} {r : RX} {env : EE} {st : Sto} (hi : i < env.length) (hj : j < env.length) (hij : i ≠ j) (e : α → PV) (ys : α → List β) (e2 : β → PV) (f : α → β → PV) : ∀ (xs : List α) (acc : List PV),
    (∀ x ∈ xs, ri1 ((env.set j none).set i (some (.p (e x)))) st = .ok ((ys x).map e2) st ∧ ∀ y ∈ ys x, r ((env.set i (some (.p (e x)))).set j (some (.p (e2 y)))) st = .ok (.p (f x y)) st) →
    acc.length + (xs.flatMap ys).length ≤ 16777216 → lc2Go (.nm i) ri1 (.nm j) r [j] (xs.map e) acc (wipeE env [i, j]) st = .ok (acc ++ xs.flatMap fun x => (ys x).map (f x)) st
  | [], acc, h, hl => by rw [List.map_nil, lc2Go, List.flatMap_nil, List.append_nil]
  | x :: xs, acc, h, hl => by
    rw [List.flatMap_cons, List.length_append] at hl
    have hs : (Tg.nm i).set (.p (e x)) (wipeE env [i, j]) = some ((env.set j none).set i (some (.p (e x)))) := by
      show (if i < ((env.set j none).set i none).length then some (((env.set j none).set i none).set i _) else none) = _
      rw [if_pos (by simpa using hi), List.set_set]
    obtain ⟨h1, h2⟩ := h x List.mem_cons_self
    rw [List.map_cons, lc2Go, hs]
    show ((ri1 _ st).nox.bind _) = _
    rw [h1]
    show ((lc2In (.nm j) r ((ys x).map e2) acc (((env.set j none).set i (some (.p (e x)))).set j none) st).bind _) = _
    rw [lc2In_of (by simpa using hj) e2 (f x) (ys x) acc (fun y hy => by
      have q := h2 y hy
      rw [List.set_comm _ _ hij, List.set_set, List.set_comm _ _ (Ne.symm hij), List.set_set]
      exact q) (by omega)]
    show lc2Go _ _ _ _ _ _ _ _ _ = _
    rw [lc2Go_of hi hj hij e ys e2 f xs _ (fun z hz => h z (List.mem_cons_of_mem _ hz)) (by rw [List.length_append, List.length_map]; omega), List.flatMap_cons, List.append_assoc]
theorem lc22_of {α β : Type} {i j : Nat} {ri ri1 : RI} {r : RX} {env : EE} {st st1 : Sto} (xs : List α) (e : α → PV) (ys : α → List β) (e2 : β → PV) (f : α → β → PV) (hr : ri env st = .ok (xs.map e) st1) (hi : i < env.length) (hj : j < env.length) (hij : i ≠ j)
    (h : ∀ x ∈ xs, ri1 ((env.set j none).set i (some (.p (e x)))) st1 = .ok ((ys x).map e2) st1 ∧ ∀ y ∈ ys x, r ((env.set i (some (.p (e x)))).set j (some (.p (e2 y)))) st1 = .ok (.p (f x y)) st1) (hl : (xs.flatMap ys).length ≤ 16777216) :
    rLc2 [i, j] [j] ri (.nm i) ri1 (.nm j) r env st = .ok (.p (.lst (xs.flatMap fun x => (ys x).map (f x)))) st1 := by
  unfold rLc2
  rw [hr]
  show ((lc2Go _ _ _ _ _ _ _ _ _).bind _) = _
  rw [lc2Go_of hi hj hij e ys e2 f xs [] h (by simpa using hl)]
  rfl
/-! ### == of encoded data -/
theorem eqvs_map {α : Type} {e : α → PV} (he : ∀ x y, PV.eqv (e x) (e y) = true ↔ x = y) : ∀ xs ys : List α, PV.eqvs (xs.map e) (ys.map e) = true ↔ xs = ys
  | [], [] => by simp [PV.eqvs]
  | [], y :: ys => by simp [PV.eqvs]
  | x :: xs, [] => by simp [PV.eqvs]
  | x :: xs, y :: ys => by
    rw [List.map_cons, List.map_cons, PV.eqvs]
    have h1 := he x y
    have h2 := eqvs_map he xs ys
    cases c : PV.eqv (e x) (e y) with
    | true => rw [cond_true, h2, h1.mp c]; simp
    | false =>
      rw [cond_false]
      constructor
      · intro h; cases h
      · intro h
        have : x = y := (List.cons.inj h).1
        rw [h1.mpr this] at c
        cases c
theorem eqK_map {α : Type} {e : α → PV} (he : ∀ x y, PV.eqK (e x) (e y) = true ↔ x = y) : ∀ xs ys : List α, PV.eqKs (xs.map e) (ys.map e) = true ↔ xs = ys
  | [], [] => by simp [PV.eqKs]
  | [], y :: ys => by simp [PV.eqKs]
  | x :: xs, [] => by simp [PV.eqKs]
  | x :: xs, y :: ys => by
    rw [List.map_cons, List.map_cons, PV.eqKs]
    have h1 := he x y
    have h2 := eqK_map he xs ys
    cases c : PV.eqK (e x) (e y) with
    | true => rw [cond_true, h2, h1.mp c]; simp
    | false =>
      rw [cond_false]
      constructor
      · intro h; cases h
      · intro h
        have : x = y := (List.cons.inj h).1
        rw [h1.mpr this] at c
        cases c
theorem deps_const {α : Type} {e : α → PV} {n : Nat} (he : ∀ x, (e x).dep = some n) : ∀ xs : List α, PV.deps (xs.map e) = some (if xs = [] then 0 else n)
  | [] => by simp [PV.deps]
  | x :: xs => by
    rw [List.map_cons, PV.deps, he x, deps_const he xs]
    by_cases h : xs = []
    · subst h; simp
    · simp [h]
theorem dOk_tup {xs : List PV} {n : Nat} (h : PV.deps xs = some n) (hn : n ≤ 60) : (PV.tup xs).dOk = true := by
  unfold PV.dOk
  simp only [PV.dep, h]
  exact Nat.ble_eq_true_of_le (by omega)
theorem dOk_lst {xs : List PV} {n : Nat} (h : PV.deps xs = some n) (hn : n ≤ 60) : (PV.lst xs).dOk = true := by
  unfold PV.dOk
  simp only [PV.dep, h]
  exact Nat.ble_eq_true_of_le (by omega)
theorem eq_data {x y : PV} (h1 : x.dOk = true) (h2 : y.dOk = true) : pEqD x y = some (PV.eqv x y) := by unfold pEqD; rw [h1, h2]; rfl
/-! ### sorting -/
def insBy {α : Type} (le : α → α → Bool) (x : α) : List α → List α
  | [] => [x]
  | y :: ys => bif le x y then x :: y :: ys else y :: insBy le x ys
def sortBy {α : Type} (le : α → α → Bool) : List α → List α
  | [] => []
  | x :: xs => insBy le x (sortBy le xs)
theorem insBy_map {α : Type} {e : α → PV} {le : α → α → Bool} (he : ∀ x y, leF (e x) (e y) = le x y) (x : α) : ∀ ys : List α, insF (e x) (ys.map e) = (insBy le x ys).map e
  | [] => rfl
  | y :: ys => by
    rw [List.map_cons, insF, insBy, he, insBy_map he x ys]
    cases le x y <;> rfl
theorem sortBy_map {α : Type} {e : α → PV} {le : α → α → Bool} (he : ∀ x y, leF (e x) (e y) = le x y) : ∀ ys : List α, isortF (ys.map e) = (sortBy le ys).map e
  | [] => rfl
  | y :: ys => by rw [List.map_cons, isortF, sortBy, sortBy_map he ys, insBy_map he]
def cmpL {α : Type} (c : α → α → Ordering) : List α → List α → Ordering
  | [], _ => .eq
  | _ :: _, [] => .eq
  | x :: xs, y :: ys => match c x y with
    | .lt => .lt
    | .gt => .gt
    | .eq => cmpL c xs ys
theorem cmpF_map {α : Type} {e : α → PV} {c : α → α → Ordering} (he : ∀ x y, cmpF (e x) (e y) = c x y) : ∀ xs ys : List α, cmpFs (xs.map e) (ys.map e) = cmpL c xs ys
  | [], ys => by rw [List.map_nil, cmpFs]; cases ys <;> rfl
  | x :: xs, [] => by rw [List.map_cons, List.map_nil, cmpFs, cmpL]
  | x :: xs, y :: ys => by
    rw [List.map_cons, List.map_cons, cmpFs, cmpL, he, cmpF_map he xs ys]
    all_goals (cases c x y <;> rfl)
theorem sameShs_map {α : Type} {e : α → PV} : ∀ (xs ys : List α), (∀ x ∈ xs, ∀ y ∈ ys, sameSh (e x) (e y) = true) → xs.length = ys.length → sameShs (xs.map e) (ys.map e) = true
  | [], [], _, _ => by simp [sameShs]
  | [], y :: ys, _, h => by simp at h
  | x :: xs, [], _, h => by simp at h
  | x :: xs, y :: ys, h, hl => by
    rw [List.map_cons, List.map_cons, sameShs, h x List.mem_cons_self y List.mem_cons_self, Bool.true_and]
    exact sameShs_map xs ys (fun a ha b hb => h a (List.mem_cons_of_mem _ ha) b (List.mem_cons_of_mem _ hb)) (by simpa using hl)
theorem oneSh_map {α : Type} {e : α → PV} {xs : List α} (h : ∀ x ∈ xs, ∀ y ∈ xs, sameSh (e x) (e y) = true) : oneSh (xs.map e) = true := by
  cases xs with
  | nil => rfl
  | cons x xs =>
    show ((x :: xs).map e).all (sameSh (e x)) = true
    rw [List.all_map, List.all_eq_true]
    exact fun y hy => h x List.mem_cons_self y hy
theorem encD_dep {x : PV} {n : Nat} (h : x.dep = some n) : (encD x).depth = n := by
  obtain ⟨d, e1, _, e3⟩ := x.dep_d n h
  unfold encD
  rw [e1]
  first | exact e3 | skip
theorem pSort_map {α : Type} {e : α → PV} {le : α → α → Bool} (he : ∀ x y, leF (e x) (e y) = le x y) {xs : List α} (h1 : ∀ x ∈ xs, ∀ y ∈ xs, sameSh (e x) (e y) = true) (h2 : ∀ x ∈ xs, ∃ n, (e x).dep = some n ∧ n ≤ 8) (h3 : headOk (xs.map e) = true) :
    pSort (xs.map e) = some ((sortBy le xs).map e) := by
  have h4 : ((xs.map e).all fun x => decide ((encD x).depth ≤ 8)) = true := by
    rw [List.all_eq_true]
    intro y hy
    obtain ⟨x, hx, rfl⟩ := List.mem_map.mp hy
    obtain ⟨n, e1, e2⟩ := h2 x hx
    exact decide_eq_true (by rw [encD_dep e1]; exact e2)
  unfold pSort
  rw [if_pos ⟨oneSh_map h1, h4, h3⟩, sortBy_map he]
theorem insBy_perm {α : Type} (le : α → α → Bool) (x : α) : ∀ ys : List α, (insBy le x ys).Perm (x :: ys)
  | [] => .refl _
  | y :: ys => by
    rw [insBy]
    cases le x y with
    | true => exact .refl _
    | false => exact ((insBy_perm le x ys).cons y).trans (.swap x y ys)
theorem sortBy_perm {α : Type} (le : α → α → Bool) : ∀ ys : List α, (sortBy le ys).Perm ys
  | [] => .refl _
  | x :: xs => (insBy_perm le x _).trans ((sortBy_perm le xs).cons x)
/-! ### seats, states, stretches -/
def bN (b : Bool) : Int := match b with
  | true => 1
  | false => 0
def eB (b : Bool) : PV := .int (bN b)
def eSeat (s : List Bool) : PV := .tup (s.map eB)
def eSt (s : List (List Bool)) : PV := .tup (s.map eSeat)
def eSp (p : Nat × Nat) : PV := .tup [.int (p.1 : Int), .int (p.2 : Int)]
def cmpB (a b : Bool) : Ordering := match a, b with
  | false, true => .lt
  | true, false => .gt
  | _, _ => .eq
theorem cmpF_eB (a b : Bool) : cmpF (eB a) (eB b) = cmpB a b := by cases a <;> cases b <;> decide
theorem cmpF_seat (a b : List Bool) : cmpF (eSeat a) (eSeat b) = cmpL cmpB a b := by
  unfold eSeat; rw [cmpF]; exact cmpF_map cmpF_eB a b
theorem cmpF_st (a b : List (List Bool)) : cmpF (eSt a) (eSt b) = cmpL (cmpL cmpB) a b := by
  unfold eSt; rw [cmpF]; exact cmpF_map cmpF_seat a b
def leSeat (a b : List Bool) : Bool := match cmpL cmpB b a with
  | .lt => false
  | _ => true
def leSt (a b : List (List Bool)) : Bool := match cmpL (cmpL cmpB) b a with
  | .lt => false
  | _ => true
theorem leF_seat (a b : List Bool) : leF (eSeat a) (eSeat b) = leSeat a b := by unfold leF leSeat; rw [cmpF_seat]; all_goals (cases cmpL cmpB b a <;> rfl)
theorem leF_st (a b : List (List Bool)) : leF (eSt a) (eSt b) = leSt a b := by unfold leF leSt; rw [cmpF_st]; all_goals (cases cmpL (cmpL cmpB) b a <;> rfl)
theorem dep_eB (b : Bool) : (eB b).dep = some 0 := by unfold eB; rw [PV.dep]
theorem dep_seat (s : List Bool) : (eSeat s).dep = some 1 := by
  unfold eSeat
  simp only [PV.dep, deps_const dep_eB, ite_self]
theorem dep_st (s : List (List Bool)) : ∃ n, (eSt s).dep = some n ∧ n ≤ 2 := by
  unfold eSt
  simp only [PV.dep, deps_const dep_seat]
  exact ⟨_, rfl, by split <;> omega⟩
theorem sameSh_seat {a b : List Bool} (h : a.length = b.length) : sameSh (eSeat a) (eSeat b) = true := by
  unfold eSeat
  rw [sameSh]
  exact sameShs_map a b (fun x _ y _ => by unfold eB; rw [sameSh]) h
theorem sameSh_st {a b : List (List Bool)} (h : a.length = b.length) {L : Nat} (ha : ∀ s ∈ a, s.length = L) (hb : ∀ s ∈ b, s.length = L) : sameSh (eSt a) (eSt b) = true := by
  unfold eSt
  rw [sameSh]
  exact sameShs_map a b (fun x hx y hy => sameSh_seat (by rw [ha x hx, hb y hy])) h
theorem eqv_eB (a b : Bool) : PV.eqv (eB a) (eB b) = true ↔ a = b := by cases a <;> cases b <;> decide
theorem eqv_seat (a b : List Bool) : PV.eqv (eSeat a) (eSeat b) = true ↔ a = b := by unfold eSeat; rw [PV.eqv]; exact eqvs_map eqv_eB a b
theorem eqv_st (a b : List (List Bool)) : PV.eqv (eSt a) (eSt b) = true ↔ a = b := by unfold eSt; rw [PV.eqv]; exact eqvs_map eqv_seat a b
theorem eqK_eB (a b : Bool) : PV.eqK (eB a) (eB b) = true ↔ a = b := by cases a <;> cases b <;> decide
theorem eqK_seat (a b : List Bool) : PV.eqK (eSeat a) (eSeat b) = true ↔ a = b := by unfold eSeat; rw [PV.eqK]; exact eqK_map eqK_eB a b
theorem eqK_st (a b : List (List Bool)) : PV.eqK (eSt a) (eSt b) = true ↔ a = b := by unfold eSt; rw [PV.eqK]; exact eqK_map eqK_seat a b
theorem dOk_st (a : List (List Bool)) : (eSt a).dOk = true := by
  obtain ⟨n, h, hn⟩ := dep_st a
  unfold PV.dOk; rw [h]; exact Nat.ble_eq_true_of_le (by omega)
theorem toK_seat (s : List Bool) : (eSeat s).toK = some (.tup (s.map fun b => .num (bN b))) := by
  unfold eSeat
  rw [PV.toK]
  have : ∀ l : List Bool, PV.toKs (l.map eB) = some (l.map fun b => .num (bN b)) := fun l => by
    induction l with
    | nil => rw [List.map_nil, PV.toKs]; rfl
    | cons x xs ih => rw [List.map_cons, PV.toKs, ih]; unfold eB; rw [PV.toK]; rfl
  rw [this]; rfl
def keySeat (s : List Bool) : NestedKey := .tup (s.map fun b => .num (bN b))
theorem toK_st (s : List (List Bool)) : (eSt s).toK = some (.tup (s.map keySeat)) := by
  unfold eSt
  rw [PV.toK]
  have : ∀ l : List (List Bool), PV.toKs (l.map eSeat) = some (l.map keySeat) := fun l => by
    induction l with
    | nil => rw [List.map_nil, PV.toKs]; rfl
    | cons x xs ih => rw [List.map_cons, PV.toKs, ih, toK_seat]; rfl
  rw [this]; rfl
end Ev
end S_EvT
section S_X1
open PySem PySem.Spec PyProof.Rows L2 PySem.W
namespace Ev
/-! An own exception class over another one over ValueError, whose __init__ says super().__init__(text), then stores fields. -/
abbrev viE : String := "ValueError.__init__"
/-- what stands in the written part -/
structure SupI (P : Program) (K : Frag) (C f cc cda : Addr) (fd : FuncData) (qual : Str) (params : Arguments) (body : List Stmt) (scope : Scope) : Prop where
  oex : OexC K C
  fn : ∃ oc od dV kV doc pm an ct osl, fd = ksFn "__init__" qual params body scope dV kV doc pm an (.ref cda) ct cc ∧ K.lookup f = some ⟨oc, od, .func fd, osl⟩
  code : codeIn K (.ref cda) qual = true
  cell : ∃ cl cld csl, K.lookup cc = some ⟨cl, cld, .cell (some (.ref C)), csl⟩
  file : ∃ ccl cdd vs ccs file tf, K.lookup cda = some ⟨ccl, cdd, .fields vs, ccs⟩ ∧ vs[2]? = some (.str file tf) ∧ ((P.main.file : Str) == file) = true
  ini : findIn K (.ref C) "__init__" = some (some (.ref f))
  ty : typeIn K (.ref f) = some (.type "function")
  sup : nsIn K mainGlobals "super" = some none
  opq : nsIn K cStatics "thirdparty.any" = some none
  alo : ks_superIn K C C "__init__" = some (some (.builtin viE))
  sub : subIn K (.ref C) (.type "ValueError") = some true
  own : mroIn K C (.ref C) = some true
  htop : (P.main.scope.names.lookup ("super" : Str)).isSome = false
/-- the scope of such an __init__ -/
structure SupS (scope : Scope) (ps : List Str) : Prop where
  kind : scope.kind = .function
  co : scope.isCoroutine = false
  gen : scope.isGenerator = false
  nocell : ∀ x ∈ scope.names, x.2 ≠ .cell
  par : ∀ p ∈ ps, scope.names.lookup p = some .local
  sup : scope.names.lookup ("super" : Str) = some .globalImplicit
  cls : scope.names.lookup ("__class__" : Str) = some .free
section
variable {P : Program} {w : World} {A : Around} {E : Value → Shared → Prop} {g : Array GenState} {d : Drawn} {os : OsState}
/-- the bound ValueError.__init__ called -/
theorem mw_call {nm q : Str} {C N u a t0 : Addr} {bs bm : List Value} {hdct : Bool} {sn : List Str} {sub : List Value} {ab : Bool} {col : Option Bool} {dd : Option Addr} {k0 k1 k2 k3 k5 : Option Value} {hh : Heap} {tk : Nat} {rest : List Value} {Q : Value → Shared → Prop}
    (hC : hh.get? C = some (excClassObj nm q C N bs bm hdct sn sub ab col dd k0 k1 k2 k3 k5 "ValueError.__new__")) (hu : hh.get? u = some (kxs_mw viE a)) (he : hh.get? a = some (excRec (.ref C) t0 none .none .none (.bool false))) (hz : rest.length ≤ sizeLine)
    (hq : ∀ h', (∀ b o, b ≠ a → hh.get? b = some o → h'.get? b = some o) → h'.get? a = some (excRec (.ref C) hh.objs.size none .none .none (.bool false)) → Q .none ⟨h', g, d, tk, os⟩) :
    wpAny (model P w) A (call (.ref u) rest) Q E ⟨hh, g, d, tk, os⟩ := by
  have FB := PySem.F.excBase_ValueError
  refine wpAny_call (codeAny_of_tree ?_)
  show wpAny _ A.in1 (callAny (.ref u) ⟨rest, []⟩) _ _ _
  unfold callAny
  dsimp only
  refine wpAny_bind (wpAny_load hu ?_)
  have e1 : (Value.type "method-wrapper" == Value.type "method" || Value.type "method-wrapper" == Value.type "builtin_function_or_method" || Value.type "method-wrapper" == Value.type "method-wrapper") = true := by decide
  simp only [kxs_mw, e1, if_true]
  refine KFB.if_so (by decide) ?_
  refine wpAny_bind (check_bound_init FB.toExcCallFacts hC he rfl ?_)
  refine wpAny_bind (wpAny_pure (wpAny_pure ?_))
  exact ⟨plainId_quiet FB.init.plain _, codeAny_builtin FB.initEntry (exc_init_tree he hz fun h' k e1 _ => hq h' k e1)⟩
end
end Ev
end S_X1
section S_X2
open PySem PySem.Spec PyProof.Rows L2 PySem.W
namespace Ev
/-- the names of the written part from the heap -/
structure Gnd (K : Frag) (mg : Str → Option Value) (h : Heap) : Prop where
  kin : K.In h
  glob : h.Ns mainGlobals mg
  blt : ∃ mb, h.Ns builtinsNs mb ∧ ∀ x : Str, x ≠ "__name__" → mb x = bootBuiltins x
theorem Gnd.keep {K : Frag} {mg : Str → Option Value} {h h' : Heap} (G : Gnd K mg h) (k : ∀ b o, h.get? b = some o → h'.get? b = some o) : Gnd K mg h' := ⟨G.kin.keeps k, G.glob.keeps k, let ⟨mb, a, b⟩ := G.blt; ⟨mb, a.keeps k, b⟩⟩
section
variable {P : Program} {w : World} {A : Around} {E : Value → Shared → Prop} {g : Array GenState} {d : Drawn} {os : OsState} {K : Frag} {C f cc cda : Addr} {fd : FuncData} {qual : Str} {params : Arguments} {body : List Stmt} {scope : Scope} {ps : List Str}
theorem cls_of {K : Frag} {C : Addr} (T : OexC K C) : ∃ cd, clsIn K C = some cd ∧ PySem.HandSPX.refsVE cd.mro = true ∧ cd.hasDict = true := by
  obtain ⟨nm, q, N, bs, bm, sn, sub, ab, col, dd, k0, k1, k2, k3, k5, hC, hbm⟩ := T.cls
  refine ⟨{ name := nm, bases := bs, mro := .ref C :: bm, ns := N, qualname := q, hasDict := true, slotNames := sn, subclasses := sub, abstract := ab, collection := col, hasDel := false }, ?_, hbm, rfl⟩
  unfold clsIn
  rw [hC] <;> rfl
/-- how such a call is evaluated -/
def SupEv (qual : Str) (scope : Scope) (L f cda cc : Addr) (p0 p1 p2 p3 p4 : Pos) (j : Nat) (z : Str) (pl : Sem Bool) : Prop :=
  eval (.Call (.Attribute (.Call (.Name "super" p0) [] [] p1) "__init__" p2) [.Constant (.str z) j p3] [] p4) (ksEnv qual scope L f (.ref cda) cc) = (do
    let x ← attributeBase (.Call (.Name "super" p0) [] [] p1) "__init__" (ksEnv qual scope L f (.ref cda) cc) (eval (.Call (.Name "super" p0) [] [] p1) (ksEnv qual scope L f (.ref cda) cc))
    standAt p2.atName
    let (u, first) ← holding [x] (getMethod x "__init__" pl)
    callWith p4 u first (backTo p4 (starEach [.Constant (.str z) j p3] (ksEnv qual scope L f (.ref cda) cc))) [])
/-- super().__init__(text) -/
theorem sup_stmt (S : SupI P K C f cc cda fd qual params body scope) (SS : SupS scope ps) {mg m : Str → Option Value} {hh : Heap} {tk : Nat} {L a t0 : Addr} {ar : Arg} {z : Str} {j : Nat} {p0 p1 p2 p3 p4 p5 : Pos} {bd : List Stmt} {Q : Flow → Shared → Prop}
    (har : (params.posonlyargs ++ params.args).head? = some ar) (hpa : ar.arg ∈ ps) (hd : (ar.arg == ("__debug__" : Str)) = false) (G : Gnd K mg hh) (hL : hh.Ns L m) (hm : m ar.arg = some (.ref a)) (ha : hh.get? a = some (excRec (.ref C) t0 none .none .none (.bool false)))
    (hq : ∀ h' tk' t1, (∀ b o, b ≠ a → hh.get? b = some o → h'.get? b = some o) → h'.get? a = some (excRec (.ref C) t1 none .none .none (.bool false)) → Q .next ⟨h', g, d, tk', os⟩)
    {pl : Sem Bool} (hev : SupEv qual scope L f cda cc p0 p1 p2 p3 p4 j z pl) :
    _root_.PySem.wpAt (model P w) A (.func bd (ksEnv qual scope L f (.ref cda) cc)) (exec (.Expr (.Call (.Attribute (.Call (.Name "super" p0) [] [] p1) "__init__" p2) [.Constant (.str z) j p3] [] p4) p5) (ksEnv qual scope L f (.ref cda) cc)) Q E ⟨hh, g, d, tk, os⟩ := by
  obtain ⟨oc, od, dV, kV, doc, pm, an, ct, osl, efd, lk⟩ := S.fn
  obtain ⟨cl, cld, csl, hcell⟩ := S.cell
  obtain ⟨ccl, cdd, vs, ccs, file, tf, hcode, hvs, hfile⟩ := S.file
  obtain ⟨nm, q, N, bs, bm, sn, sub, ab, col, dd, k0, k1, k2, k3, k5, hC, hbm⟩ := S.oex.cls
  obtain ⟨cd, hcd, hmro, hdict⟩ := cls_of S.oex
  obtain ⟨mb, hB, hBm⟩ := G.blt
  have X := G.kin
  have hCh := X _ _ hC
  have hsup : mg "super" = none := PySem.W.mg_none_of X G.glob S.sup
  refine ks_wpAt_Expr_any (ks_wpAt_MethodCall (pl := pl) ?_ hev) (by unfold interactive; simp [SS.kind])
  refine ks_wpAt_super_base (env := ksEnv qual scope L f (.ref cda) cc) SS.sup SS.cls (by decide) rfl (X _ _ lk) rfl (by rw [efd]; exact har) rfl (X _ _ hcode) rfl hvs hfile S.htop ?_
  refine ks_loadName_global SS.kind SS.sup (PySem.Calls.loadGlobal_builtin (env := ksEnv qual scope L f (.ref cda) cc) G.glob hsup hB ((hBm _ (by decide +kernel)).trans (by decide +kernel)) ⟨rfl, ?_⟩)
  refine wpAny_loadName_free SS.kind SS.cls rfl ⟨_, X _ _ hcell, rfl⟩ ?_
  refine wpAny_loadName_local SS.kind (SS.par _ hpa) hL hm ?_
  refine ks_wpAny_isType_cls hCh rfl ⟨rfl, ?_⟩
  refine ks_wpAny_call_super hCh rfl ha rfl (fun c e => by cases e) (looks_mroIn X S.own) (fun h1 e1 k1 => ?_)
  have X1 := X.keeps k1
  have ha1 := k1 _ _ ha
  have hI : W.Looks (model P w) h1 (isInstance (.ref a) (.type "ValueError")) true := by
    have I : InstAt h1 a (excRec (.ref C) t0 none .none .none (.bool false)) C none := ⟨ha1, rfl, rfl, trivial⟩
    exact I.type.andThen (looks_subIn X1 S.sub)
  have hne : a ≠ C := fun e => by
    rw [e, hCh] at ha
    cases ha
  have halo := S.alo
  unfold ks_superIn at halo
  rw [hcd] at halo
  refine kxs_getMethod kxs_ValueError e1 (looks_opaque X1 S.opq) (l₀ := cd.mro) (fun A Q E s k q => wpAny_bind ((looks_clsIn X1 hcd) A _ E s k (wpAny_pure q))) rfl X1 halo hI hne (by decide) ?_
  refine kxs_callWith (i := viE) (x := a) (by rfl) (PySem.Calls.evalArgs_plain ?_)
  refine PySem.Calls.spliced_cons (wpAny_Constant_str (k := j) (pos := p3) (PySem.Calls.spliced_nil ⟨Heap.get?_push_at rfl rfl, ?_⟩))
  have k2 : ∀ b o, h1.get? b = some o → (h1.push (kxs_mw viE a)).get? b = some o := fun b o e => Heap.get?_push_of_some _ e
  refine mw_call (k2 _ _ (k1 _ _ hCh)) (Heap.get?_push_at rfl rfl) (k2 _ _ ha1) (by rw [sizeLine_eq]; exact Nat.le_of_ble_eq_true rfl) fun h3 k3 e3 => ?_
  exact hq h3 _ _ (fun b o hb e => k3 b o hb (k2 _ _ (k1 _ _ e))) e3
end
end Ev
end S_X2
section S_X3
open PySem PySem.Spec PyProof.Rows L2 PySem.W
namespace Ev
section
variable {P : Program} {w : World} {A : Around} {E : Value → Shared → Prop} {g : Array GenState} {d : Drawn} {os : OsState} {K : Frag} {C f cc cda : Addr} {fd : FuncData} {qual : Str} {params : Arguments} {body : List Stmt} {scope : Scope} {ps : List Str}
/-- the exception's object with a dict -/
abbrev excD (C t1 dx : Addr) : Obj := { cls := .ref C, dict := some dx, data := .fields #[.ref t1, .none, .none, .none, .bool false, .none] }
theorem set_first (T : OexC K C) {hh : Heap} {tk : Nat} {a t0 : Addr} {fld : Str} {u : Value} {Q : Unit → Shared → Prop} (X : K.In hh) (ha : hh.get? a = some (excRec (.ref C) t0 none .none .none (.bool false))) (hno : findIn K (.ref C) fld = some none)
    (hq : ∀ h' tk' dx, (∀ b o, b ≠ a → hh.get? b = some o → h'.get? b = some o) → hh.objs.size ≤ dx → dx ≠ a → h'.get? a = some (excD C t0 dx) → h'.Ns1 dx (fun y => if y = fld then some u else none) → Q () ⟨h', g, d, tk', os⟩) :
    wpAny (model P w) A (setAttr (.ref a) fld u) Q E ⟨hh, g, d, tk, os⟩ := by
  obtain ⟨cd, hcd, hmro, hdict⟩ := cls_of T
  refine set_plain X (ox := excRec (.ref C) t0 none .none .none (.bool false)) (od := none) ⟨ha, rfl, rfl, trivial⟩ T.sa ?_
  exact PySem.HandSPX.exc_osa X ha hcd hmro hdict hno fun h' tk' dx k1 k2 k3 k4 k5 => hq h' tk' dx k1 k2 k3 k4 k5
theorem set_more (T : OexC K C) {hh : Heap} {tk : Nat} {a t0 dx : Addr} {fld : Str} {u : Value} {m0 : Str → Option Value} {nl : List Str} {Q : Unit → Shared → Prop} (X : K.In hh) (ha : hh.get? a = some (excD C t0 dx)) (hn : hh.Ns1 dx m0) (hw : Within m0 nl) (hz : nl.length ≤ 1000) (hno : findIn K (.ref C) fld = some none)
    (hq : ∀ h' tk', (∀ b o, b ≠ dx → hh.get? b = some o → h'.get? b = some o) → h'.Ns1 dx (fun y => if y = fld then some u else m0 y) → Q () ⟨h', g, d, tk', os⟩) :
    wpAny (model P w) A (setAttr (.ref a) fld u) Q E ⟨hh, g, d, tk, os⟩ := by
  obtain ⟨cd, hcd, hmro, hdict⟩ := cls_of T
  obtain ⟨oD, esD, epD, hoD, hdD, hcD⟩ := hn.count hw
  refine set_plain X (ox := excD C t0 dx) (od := some oD) ⟨ha, rfl, rfl, hoD⟩ T.sa ?_
  exact PySem.OEX.osa_old X ha hn hw hz hcd hmro hdict hno fun h' tk' k1 k2 => hq h' tk' k1 k2
theorem ns_keep {hh h' : Heap} {L a : Addr} {m : Str → Option Value} (hL : hh.Ns L m) (k : ∀ b o, b ≠ a → hh.get? b = some o → h'.get? b = some o) (hne : L ≠ a) : h'.Ns L m := by
  obtain ⟨o, es, ep, ho, r⟩ := hL
  exact ⟨o, es, ep, k _ _ hne ho, r⟩
theorem gnd_keep {mg : Str → Option Value} {hh h' : Heap} {a : Addr} (G : Gnd K mg hh) (k : ∀ b o, b ≠ a → hh.get? b = some o → h'.get? b = some o) (hk : K.lookup a = none) (hg : mainGlobals ≠ a) (hb : builtinsNs ≠ a) : Gnd K mg h' :=
  ⟨fun b o e => k b o (fun z => by rw [z, hk] at e; cases e) (G.kin b o e), ns_keep G.glob k hg, let ⟨mb, x, y⟩ := G.blt; ⟨mb, ns_keep x k hb, y⟩⟩
end
end Ev
end S_X3
section S_X4
open PySem PySem.Spec PyProof.Rows L2 PySem.W
namespace Ev
/-- self.f = v, v's value u -/
structure AS where
  fld : Str
  v : Str
  pa : Pos
  pb : Pos
  pc : Pos
  pd : Pos
def asgS (self : Str) (x : AS) : Stmt := .Assign [.Attribute (.Name self x.pa) x.fld x.pb] (.Name x.v x.pc) x.pd
def putN : List (Str × Value) → (Str → Option Value) → Str → Option Value
  | [], m => m
  | (f, u) :: r, m => putN r fun y => if y = f then some u else m y
def supS (p0 p1 p2 p3 p4 p5 : Pos) (j : Nat) (z : Str) : Stmt := .Expr (.Call (.Attribute (.Call (.Name "super" p0) [] [] p1) "__init__" p2) [.Constant (.str z) j p3] [] p4) p5
section
variable {P : Program} {w : World} {A : Around} {E : Value → Shared → Prop} {g : Array GenState} {d : Drawn} {os : OsState} {K : Frag} {C f cc cda : Addr} {fd : FuncData} {qual : Str} {params : Arguments} {body : List Stmt} {scope : Scope} {ps : List Str}
theorem ld_par {M : Model} {env : Env} {m : Str → Option Value} {x : Str} {pos : Pos} {v : Value} {hh : Heap} {tk : Nat} {Q : Value → Shared → Prop} (hk : env.scope.kind = .function) (hl : env.scope.names.lookup x = some .local) (hd : (x == ("__debug__" : Str)) = false) (hn : hh.Ns env.locals m) (hv : m x = some v)
    (h : Q v ⟨hh, g, d, tk, os⟩) : wpAny M A (eval (.Name x pos) env) Q E ⟨hh, g, d, tk, os⟩ := wpAny_Name (wpAny_loadName_local hk hl hn hv h) hd
theorem look_mem : ∀ {l : List (Str × Value)}, (l.map (·.1)).Nodup → ∀ {y : Str} {v : Value}, (y, v) ∈ l → l.lookup y = some v
  | [], _, _, _, h => by cases h
  | (x, u) :: l, hn, y, v, h => by
    rw [List.map_cons, List.nodup_cons] at hn
    rcases List.mem_cons.mp h with e | h
    · cases e
      simp [List.lookup]
    · have hne : (y == x) = false := by
        rw [beq_eq_false_iff_ne]
        intro e
        exact hn.1 (by rw [← e]; exact List.mem_map_of_mem (f := (·.1)) h)
      rw [List.lookup_cons, hne]
      exact look_mem hn.2 h
theorem asg_rest (T : OexC K C) (SS : SupS scope ps) {mg m : Str → Option Value} {L a t0 dx : Addr} {self : Str} (hs : self ∈ ps) (hds : (self == ("__debug__" : Str)) = false) (hm : m self = some (.ref a)) (hLd : L ≠ dx) (had : a ≠ dx) (hg : mainGlobals ≠ dx) (hb : builtinsNs ≠ dx) (hK : K.lookup dx = none) {bd : List Stmt} {Q : Flow → Shared → Prop} :
    ∀ (xs : List (AS × Value)) (m0 : Str → Option Value) (nl : List Str) (hh : Heap) (tk : Nat), Gnd K mg hh → hh.Ns L m → hh.get? a = some (excD C t0 dx) → hh.Ns1 dx m0 → Within m0 nl → nl.length + xs.length ≤ 1000 →
      (∀ x ∈ xs, findIn K (.ref C) x.1.fld = some none ∧ x.1.v ∈ ps ∧ (x.1.v == ("__debug__" : Str)) = false ∧ m x.1.v = some x.2) →
      (∀ h' tk', (∀ b o, b ≠ dx → hh.get? b = some o → h'.get? b = some o) → h'.Ns1 dx (putN (xs.map fun x => (x.1.fld, x.2)) m0) → Q .next ⟨h', g, d, tk', os⟩) →
      _root_.PySem.wpAt (model P w) A (.func bd (ksEnv qual scope L f (.ref cda) cc)) (execs (xs.map fun x => asgS self x.1) (ksEnv qual scope L f (.ref cda) cc)) Q E ⟨hh, g, d, tk, os⟩
  | [], m0, nl, hh, tk, G, hL, ha, hn, hw, hz, hx, hq => wpAt_of_wpAny (wpAny_execs_nil (hq hh tk (fun _ _ _ e => e) hn))
  | (x, u) :: xs, m0, nl, hh, tk, G, hL, ha, hn, hw, hz, hx, hq => by
    rw [List.length_cons] at hz
    obtain ⟨h1, h2, h3, h4⟩ := hx (x, u) List.mem_cons_self
    refine ks_wpAt_execs_cons (ks_wpAt_Assign_Attr ?_)
    refine wpAt_of_wpAny (ld_par SS.kind (SS.par _ h2) h3 hL h4 (ld_par SS.kind (SS.par _ hs) hds hL hm ?_))
    refine set_more T G.kin ha hn hw (by omega) h1 fun h' tk' k n' => ?_
    dsimp only
    refine asg_rest T SS hs hds hm hLd had hg hb hK xs _ (x.fld :: nl) h' tk' (gnd_keep G k hK hg hb) (ns_keep hL k hLd) (k _ _ had ha) n' (Within.cons x.fld u hw) (by rw [List.length_cons]; omega) (fun y hy => hx y (List.mem_cons_of_mem _ hy)) fun h2 tk2 k2 n2 => ?_
    exact hq h2 tk2 (fun b o hb e => k2 b o hb (k b o hb e)) n2
/-- the whole __init__ -/
theorem sup_run {x0 : AS} {u0 : Value} {xs : List (AS × Value)} {self : Str} {p0 p1 p2 p3 p4 p5 : Pos} {j : Nat} {z : Str} (S : SupI P K C f cc cda fd qual params body scope) (SS : SupS scope ps) (hbody : body = supS p0 p1 p2 p3 p4 p5 j z :: ((x0, u0) :: xs).map fun x => asgS self x.1) {ar : Arg} (har : (params.posonlyargs ++ params.args).head? = some ar) (hself : ar.arg = self) (hs : self ∈ ps) (hds : (self == ("__debug__" : Str)) = false)
    {pl : Sem Bool} (hev : ∀ L, SupEv qual scope L f cda cc p0 p1 p2 p3 p4 j z pl) {mg : Str → Option Value} {hh : Heap} {tk : Nat} {a t0 : Addr} {us : List Value} {R : Result → Shared → Prop} (hr : A.depth < recursionLimit) (G : Gnd K mg hh) (hlim : hh.NoLimit) (ha : hh.get? a = some (excRec (.ref C) t0 none .none .none (.bool false)))
    (hnd : ps.Nodup) (hlen : us.length = ps.length) (hb : BindsTo ⟨hh, g, d, tk, os⟩ fd ⟨us, []⟩ (ps.zip us)) (h0 : (self, Value.ref a) ∈ ps.zip us) (hKa : K.lookup a = none)
    (hx : ∀ x ∈ (x0, u0) :: xs, findIn K (.ref C) x.1.fld = some none ∧ (x.1.v == ("__debug__" : Str)) = false ∧ (x.1.v, x.2) ∈ ps.zip us) (hxl : xs.length ≤ 900)
    (hq : ∀ h' tk' t1 dx, (∀ b o, b ≠ a → hh.get? b = some o → h'.get? b = some o) → hh.objs.size ≤ dx → dx ≠ a → h'.get? a = some (excD C t1 dx) → h'.Ns1 dx (putN (((x0, u0) :: xs).map fun x => (x.1.fld, x.2)) fun _ => none) → R (.ok (.ret .none)) ⟨h', g, d, tk', os⟩) :
    codeAny (model P w) A (.call (.ref f) ⟨us, []⟩) R ⟨hh, g, d, tk, os⟩ := by
  obtain ⟨oc, od, dV, kV, doc, pm, an, ct, osl, efd, lk⟩ := S.fn
  have look : ∀ {y : Str} {v : Value}, (y, v) ∈ ps.zip us → (ps.zip us).reverse.lookup y = some v := fun {y v} hm => by
    have hnd2 : ((ps.zip us).map (·.1)).Nodup := by
      rw [List.map_fst_zip (by omega)]
      exact hnd
    rw [lookup_reverse_of_nodup _ hnd2]
    exact look_mem hnd2 hm
  have mem : ∀ {y : Str} {v : Value}, (y, v) ∈ ps.zip us → y ∈ ps := fun {y v} hm => (List.of_mem_zip hm).1
  refine ks_codeAny_call_defAt (fd := fd) (body := body) (binds := ps.zip us) hr (G.kin _ _ lk) rfl hlim ?_ (by rw [efd]) hb (by rw [efd]; exact SS.nocell) (by rw [efd]; exact fun y hy => SS.par _ (List.of_mem_zip hy).1) ?_ (by rw [efd]; exact SS.co) (by rw [efd]; exact SS.gen) (by rw [efd]; exact SS.kind)
  · have := codeRec_of G.kin S.code
    rw [efd]
    exact this
  intro h₀ hns k0
  have hcE : callEnv fd hh.objs.size f = ksEnv qual scope hh.objs.size f (.ref cda) cc := by rw [efd] <;> rfl
  rw [hcE]
  have G0 : Gnd K mg h₀ := G.keep k0
  have ha0 := k0 _ _ ha
  have hLa : hh.objs.size ≠ a := Nat.ne_of_gt (Heap.lt_size ha)
  have hga : mainGlobals ≠ a := fun e => by
    obtain ⟨o, es, ep, e1, e2, _⟩ := G.glob
    rw [e, ha] at e1
    cases e1
    cases e2
  have hba : builtinsNs ≠ a := fun e => by
    obtain ⟨mb, ⟨o, es, ep, e1, e2, _⟩, _⟩ := G.blt
    rw [e, ha] at e1
    cases e1
    cases e2
  rw [hbody]
  refine ks_wpAt_execs_cons (sup_stmt S SS har (by rw [hself]; exact hs) (by rw [hself]; exact hds) G0 hns (by rw [hself]; exact look h0) ha0 (fun h1 tk1 t1 k1 e1 => ?_) (hev _))
  dsimp only
  have G1 := gnd_keep G0 k1 hKa hga hba
  have hL1 := ns_keep hns k1 hLa
  obtain ⟨f1, f2, f3⟩ := hx (x0, u0) List.mem_cons_self
  show _root_.PySem.wpAt (model P w) (A.deeper (ksEnv qual scope hh.objs.size f (.ref cda) cc)) _ (execs (asgS self x0 :: xs.map fun x => asgS self x.1) (ksEnv qual scope hh.objs.size f (.ref cda) cc)) _ _ _
  refine ks_wpAt_execs_cons (ks_wpAt_Assign_Attr ?_)
  refine wpAt_of_wpAny (ld_par SS.kind (SS.par _ (mem f3)) f2 hL1 (look f3) (ld_par SS.kind (SS.par _ hs) hds hL1 (look h0) ?_))
  refine set_first S.oex G1.kin e1 f1 fun h2 tk2 dx k2 z1 z2 e2 n2 => ?_
  dsimp only
  have hsz0 : hh.objs.size ≤ h₀.objs.size := Nat.le_of_lt hns.lt
  have hk01 : ∀ b o, b ≠ a → hh.get? b = some o → h1.get? b = some o := fun b o hb e => k1 b o hb (k0 b o e)
  have hdx : ∀ b o, hh.get? b = some o → b ≠ dx := fun b o e z => by
    have hlt := Heap.lt_size e
    by_cases hb : b = a
    · exact z2 (z ▸ hb)
    · have h9 := Nat.lt_of_lt_of_le (Heap.lt_size (hk01 b o hb e)) z1
      rw [z] at h9
      exact Nat.lt_irrefl _ h9
  have hLdx : hh.objs.size ≠ dx := Nat.ne_of_lt (Nat.lt_of_lt_of_le hL1.lt z1)
  have hgd : mainGlobals ≠ dx := by
    obtain ⟨o, es, ep, e1, _⟩ := G.glob
    exact hdx _ _ e1
  have hbd : builtinsNs ≠ dx := by
    obtain ⟨mb, ⟨o, es, ep, e1, _⟩, _⟩ := G.blt
    exact hdx _ _ e1
  have hKd : K.lookup dx = none := by
    cases q : K.lookup dx with
    | none => rfl
    | some o => exact absurd rfl (hdx _ _ (G.kin _ _ q))
  have hszd : hh.objs.size ≤ dx := Nat.le_of_lt (Nat.lt_of_lt_of_le hL1.lt z1)
  refine asg_rest S.oex SS (mg := mg) hs hds (look h0) hLdx (Ne.symm z2) hgd hbd hKd xs _ [x0.fld] h2 tk2 (gnd_keep G1 k2 hKa hga hba) (ns_keep hL1 k2 hLa) e2 n2 ?_ (by simp; omega) (fun x hx' => ?_) fun h3 tk3 k3 n3 => ?_
  · intro y hy
    by_cases e : y = x0.fld
    · rw [e]; exact List.mem_singleton.mpr rfl
    · exact absurd (if_neg e) hy
  · obtain ⟨y1, y2, y3⟩ := hx x (List.mem_cons_of_mem _ hx')
    exact ⟨y1, mem y3, y2, look y3⟩
  · exact hq h3 tk3 t1 dx (fun b o hb e => k3 b o (hdx b o e) (k2 b o hb (hk01 b o hb e))) hszd z2 (k3 _ _ (Ne.symm z2) e2) n3
end
end Ev
end S_X4
section S_X5
open PySem PySem.Spec PyProof.Rows L2 PySem.W
namespace Ev
/-- an exception class of one or more fields whose __init__ stores its parameters -/
structure SupC (P : Program) (K : Frag) (C : Addr) (fs : List Str) : Prop where
  ex : ∃ (f cc cda : Addr) (fd : FuncData) (qual : Str) (params : Arguments) (body : List Stmt) (scope : Scope) (x0 : AS) (xs : List AS) (self : Str) (p0 p1 p2 p3 p4 p5 : Pos) (j : Nat) (z : Str) (ar : Arg) (pl : Sem Bool),
    SupI P K C f cc cda fd qual params body scope ∧ SupS scope (self :: (x0 :: xs).map (·.v)) ∧ body = supS p0 p1 p2 p3 p4 p5 j z :: (x0 :: xs).map (asgS self) ∧ (params.posonlyargs ++ params.args).head? = some ar ∧ ar.arg = self ∧
    (self == ("__debug__" : Str)) = false ∧ (∀ L, SupEv qual scope L f cda cc p0 p1 p2 p3 p4 j z pl) ∧ (self :: (x0 :: xs).map (·.v)).Nodup ∧ (∀ (s : Shared) (us : List Value), us.length = xs.length + 2 → BindsTo s fd ⟨us, []⟩ ((self :: (x0 :: xs).map (·.v)).zip us)) ∧
    (∀ x ∈ x0 :: xs, findIn K (.ref C) x.fld = some none ∧ (x.v == ("__debug__" : Str)) = false) ∧ xs.length ≤ 900 ∧ (x0 :: xs).map (·.fld) = fs ∧ fs.Nodup
  kp : keepIn K (.ref C) = true
theorem zip_map_fld : ∀ (xs : List AS) (us : List Value), us.length = xs.length → ((xs.zip us).map fun x => (x.1.fld, x.2)) = (xs.map (·.fld)).zip us
  | [], us, h => by simp
  | x :: xs, [], h => by cases h
  | x :: xs, u :: us, h => by
    simp only [List.zip_cons_cons, List.map_cons]
    rw [zip_map_fld xs us (by simpa using h)]
theorem zip_map_s (self : Str) : ∀ (xs : List AS) (us : List Value), us.length = xs.length → ((xs.zip us).map fun x => asgS self x.1) = xs.map (asgS self)
  | [], us, h => by simp
  | x :: xs, [], h => by cases h
  | x :: xs, u :: us, h => by
    simp only [List.zip_cons_cons, List.map_cons]
    rw [zip_map_s self xs us (by simpa using h)]
theorem zip_mem_v : ∀ {xs : List AS} {us : List Value} {x : AS × Value}, x ∈ xs.zip us → (x.1.v, x.2) ∈ (xs.map (·.v)).zip us
  | [], us, x, h => by simp at h
  | y :: xs, [], x, h => by simp at h
  | y :: xs, u :: us, x, h => by
    simp only [List.zip_cons_cons, List.map_cons] at h ⊢
    rcases List.mem_cons.mp h with rfl | h
    · exact List.mem_cons_self
    · exact List.mem_cons_of_mem _ (zip_mem_v h)
/-- the dict's values stand for the fields -/
theorem putN_rel : ∀ (fs : List Str) (vs : List V) (us : List Value) (m : Str → Option Value), fs.Nodup → Vals vs us → vs.length = fs.length → (∀ f ∈ fs, m f = none) →
    ∀ y, RelO ((fs.zip vs).lookup y) (putN (fs.zip us) m y) ∨ (y ∉ fs ∧ (fs.zip vs).lookup y = none ∧ putN (fs.zip us) m y = m y)
  | [], vs, us, m, hn, hv, hl, hm, y => .inr ⟨by simp, by simp, by simp [putN]⟩
  | f :: fs, [], us, m, hn, hv, hl, hm, y => by cases hl
  | f :: fs, v :: vs, [], m, hn, hv, hl, hm, y => by cases hv
  | f :: fs, v :: vs, u :: us, m, hn, hv, hl, hm, y => by
    obtain ⟨r, hv⟩ : RelV v u ∧ Vals vs us := by cases hv with | cons a b => exact ⟨a, b⟩
    rw [List.nodup_cons] at hn
    simp only [List.zip_cons_cons, putN, List.lookup_cons]
    have ih := putN_rel fs vs us (fun z => if z = f then some u else m z) hn.2 hv (by simpa using hl) (fun g hg => by
      show (if g = f then some u else m g) = none
      rw [if_neg (fun e => hn.1 (by rw [← e]; exact hg))]
      exact hm g (List.mem_cons_of_mem _ hg)) y
    by_cases e : y = f
    · subst e
      left
      rcases ih with ih | ⟨i1, i2, i3⟩
      · exfalso
        have hno : (fs.zip vs).lookup y = none := by
          rw [List.lookup_eq_none_iff]
          intro p hp
          have := (List.of_mem_zip hp).1
          simp
          intro e
          exact hn.1 (by rw [e]; exact this)
        have hput : ∀ (l : List (Str × Value)) (m : Str → Option Value), y ∉ l.map (·.1) → putN l m y = m y := by
          intro l
          induction l with
          | nil => intro m _; rfl
          | cons q l ihl =>
            intro m hq
            rw [putN, ihl _ (fun h => hq (List.mem_cons_of_mem _ h))]
            show (if y = q.1 then some q.2 else m y) = m y
            rw [if_neg (fun e => hq (by rw [e]; exact List.mem_cons_self))]
        rw [hno, hput _ _ (fun h => hn.1 (by
          obtain ⟨q, hq, hqe⟩ := List.mem_map.mp h
          rw [← hqe]
          exact (List.of_mem_zip hq).1))] at ih
        simp at ih
        exact ih
      · rw [i3]
        simp
        exact r
    · have hne : (y == f) = false := beq_eq_false_iff_ne.mpr e
      rw [hne]
      rcases ih with ih | ⟨i1, i2, i3⟩
      · exact .inl ih
      · refine .inr ⟨fun h => (List.mem_cons.mp h).elim e i1, i2, ?_⟩
        rw [i3]
        show (if y = f then some u else m y) = m y
        rw [if_neg e]
theorem putN_relO {fs : List Str} {vs : List V} {us : List Value} (hn : fs.Nodup) (hv : Vals vs us) (hl : vs.length = fs.length) (y : Str) : RelO ((fs.zip vs).lookup y) (putN (fs.zip us) (fun _ => none) y) := by
  rcases putN_rel fs vs us (fun _ => none) hn hv hl (fun _ _ => rfl) y with h | ⟨_, h2, h3⟩
  · exact h
  · rw [h2, h3]
    exact True.intro
end Ev
end S_X5
section S_X6
open PySem PySem.Spec PyProof.Rows L2 PySem.W
namespace Ev
/-- C(e, ..): the exception's fields are its arguments -/
def tMkS (C : Addr) (fs : List Str) (ta : TA) : L2.St → Hp → XK → Prop := fun σ H Q => ta σ H fun vs H1 => vs.length = fs.length ∧ ∀ dx, H1 dx = none → Q (.ref C) (some dx) (upd H1 dx (.xd (fs.zip vs)))
theorem pmk_sup {X : Cx} {x : Str} {C : Addr} {fs : List Str} {e : Expr} {es : List Expr} {ta : TA} {p pos : Pos} (T : SupC X.prog X.K C fs) (hr : Room 1 X.A) (hg : Gl X x) (hm : X.mg x = some (.ref C)) (ha : PA X (e :: es) ta)
    (hdb : (x == ("__debug__" : Str)) = false := by decide) (he : starEach (e :: es) X.env = (false, eval e X.env) :: starEach es X.env := by rfl) (hpl : (backTo pos (starEach es X.env)).any (·.1) = false := by rfl) :
    PMk X (.Call (.Name x p) (e :: es) [] pos) (tMkS C fs ta) := by
  intro pins s σ H Q I h
  obtain ⟨f, cc, cda, fd, qual, params, body, scope, x0, xs, self, p0, p1, p2, p3, p4, p5, j, z, ar, pl, S, SS, hbody, har, hself, hds, hev, hnd, hbind, hfl, hxl, hfs, hfn⟩ := T.ex
  obtain ⟨nm, q, N, bs, bm, sn, sub, ab, col, dd, k0, k1, k2, k3, k5, hC, hbm⟩ := S.oex.cls
  refine wpAny_Call_Name_kw (ld_glob I hg hm ?_ hdb)
  refine PySem.W.callWith_K (h₀ := X.base) I.ok.mod.kin T.kp (thn (ha.run pos pins s σ H _ I h) fun us s1 ⟨vs, H1, I1, r1, hz, q1⟩ => ⟨I1.kIn, ?_⟩) he hpl
  show wpAny _ _ (call (.ref C) us) _ _ _
  have hvl : us.length = vs.length := (Paired.length r1).symm
  have hfl2 : fs.length = xs.length + 1 := by rw [← hfs]; simp
  have hus : us.length = xs.length + 1 := by omega
  have G1 : Gnd X.K X.mg s1.heap := ⟨I1.kIn, I1.mod.glob.keeps I1.bk, let ⟨mb, a, b⟩ := I1.mod.blt; ⟨mb, a.keeps I1.bk, b⟩⟩
  have lim : s1.heap.NoLimit := I1.nolimit
  obtain ⟨hp, g, dr, tk, os⟩ := s1
  have kk : ∀ b o, hp.get? b = some o → ((hp.push (kdv_tup us)).push (PySem.HandSPX.excO C hp.objs.size)).get? b = some o := fun b o e => Heap.get?_push_of_some _ (Heap.get?_push_of_some _ e)
  have hget : ((hp.push (kdv_tup us)).push (PySem.HandSPX.excO C hp.objs.size)).get? (hp.objs.size + 1) = some (PySem.HandSPX.excO C hp.objs.size) := by heap_get
  have hKa : X.K.lookup (hp.objs.size + 1) = none := by
    cases q : X.K.lookup (hp.objs.size + 1) with
    | none => rfl
    | some o => exact absurd (show hp.objs.size + 1 < hp.objs.size from Heap.lt_size (G1.kin _ _ q)) (by omega)
  have nha : ∀ {b : Addr} {o : Obj}, hp.get? b = some o → b ≠ hp.objs.size + 1 := fun {b o} z => Nat.ne_of_lt (Nat.lt_succ_of_lt (Heap.lt_size z))
  refine wpAny_call (PySem.HandSPX.call_own PySem.F.excBase_ValueError (fun Y => PySem.HandSPX.refsVE_contains Y bm hbm) (I1.kIn _ _ hC) (looks_findIn I1.kIn S.ini) (fun self => bind_fn I1.kIn self S.ty) (by rw [sizeLine_eq]; omega) ?_)
  have hr2 := (hr.make C us []).depth
  have hzl : (x0 :: xs).length = us.length := by simp [hus]
  obtain ⟨u0, ur, rfl⟩ : ∃ u0 ur, us = u0 :: ur := by
    cases us with
    | nil => simp at hus
    | cons a b => exact ⟨a, b, rfl⟩
  have hur : ur.length = xs.length := by simpa using hus
  refine sup_run (p5 := p5) (x0 := x0) (u0 := u0) (xs := xs.zip ur) (self := self) S SS ?_ har hself List.mem_cons_self hds hev ?_ (G1.keep kk) (lim.keeps kk) hget hnd (by simp [hur]) (hbind _ _ (by simp [hur])) ?_ hKa (fun y hy => ?_) (by simp [hur]; omega) fun h' tk' t1 dx kp hsz hne hae hns => ?_
  · rw [hbody, List.map_cons, List.map_cons, zip_map_s self xs ur hur]
  · exact hr2
  · simp
  · rcases List.mem_cons.mp hy with rfl | hy
    · obtain ⟨f1, f2⟩ := hfl x0 List.mem_cons_self
      exact ⟨f1, f2, by simp⟩
    · obtain ⟨f1, f2⟩ := hfl y.1 (List.mem_cons_of_mem _ (List.of_mem_zip (show (y.1, y.2) ∈ xs.zip ur from hy)).1)
      exact ⟨f1, f2, by
        simp only [List.map_cons, List.zip_cons_cons]
        exact List.mem_cons_of_mem _ (List.mem_cons_of_mem _ (zip_mem_v hy))⟩
  · have hfld : ((x0, u0) :: xs.zip ur).map (fun x => (x.1.fld, x.2)) = fs.zip (u0 :: ur) := by
      rw [← hfs, List.map_cons, zip_map_fld xs ur hur, List.map_cons, List.zip_cons_cons]
    rw [hfld] at hns
    have n1 : H1 (hp.objs.size + 1) = none := I1.hok.fresh (Nat.le_succ _)
    have hsz2 : hp.objs.size + 1 < dx := by
      have h9 : ((hp.push (kdv_tup (u0 :: ur))).push (PySem.HandSPX.excO C hp.objs.size)).objs.size ≤ dx := hsz
      have h8 := Nat.lt_of_lt_of_le (Heap.lt_size hget) h9
      exact h8
    have nd : H1 dx = none := I1.hok.fresh (show hp.objs.size ≤ dx by omega)
    have ndx : ∀ {b : Addr} {o : Obj}, hp.get? b = some o → b ≠ dx := fun {b o} z e => by
      have := Heap.lt_size z
      rw [e] at this
      exact Nat.lt_irrefl _ (Nat.lt_trans this (Nat.lt_of_succ_lt hsz2))
    obtain ⟨Gh, g1', g2'⟩ := restrict h' fun b => decide (b ≠ hp.objs.size + 1)
    have gk : ∀ b, b ≠ hp.objs.size + 1 → Gh.get? b = h'.get? b := fun b hb => g1' b (decide_eq_true hb)
    have ge : Gh.get? (hp.objs.size + 1) = none := g2' _ (by simp)
    have kold : ∀ b o, hp.get? b = some o → Gh.get? b = some o := fun b o z => (gk b (nha z)).trans (kp b o (nha z) (kk b o z))
    have U : Un (frs X.stack) [] H1 (upd H1 dx (.xd (fs.zip vs))) hp Gh := {
      keep := fun b o z _ _ _ => kold b o z
      slot := fun b o z _ _ _ => ⟨o.slots, kold b o z⟩
      free := fun b o z n _ => by rw [upd_ne (ndx z)]; exact n
      there := fun b o z _ => ⟨o, kold b o z⟩
      tups := fun b xs z => by rw [upd_ne (ne_of_none z nd)]; exact z
      frzs := fun b o v z => by rw [upd_ne (ne_of_none z nd)]; exact z
      tbls := fun b ps z => ⟨#[], by rw [upd_ne (ne_of_none z nd), z]; simp⟩ }
    have hok : HOk X.prog X.w (upd H1 dx (.xd (fs.zip vs))) Gh := fun b o z => by
      by_cases hb : b = dx
      · subst hb
        rw [upd_same] at z
        cases z
        exact ⟨_, hns.at fun o y => (gk b hne).trans y, putN_relO hfn r1 (by omega)⟩
      · rw [upd_ne hb] at z
        exact (I1.hok b o z).stay (fun c u hc y => kold c u y) (fun c hc => by rw [upd_ne (ne_of_none hc nd)]; exact hc) (fun c xs hc => by rw [upd_ne (ne_of_none hc nd)]; exact hc)
    have J : Inv X pins σ (upd H1 dx (.xd (fs.zip vs))) ⟨Gh, g, dr, tk', os⟩ := I1.call' (ch := []) rfl U hok I1.bare (fun b z => absurd z (by simp))
    exact ⟨rfl, hp.objs.size + 1, excD C t1 dx, _, ⟨Gh, g, dr, tk', os⟩, _, .ref C, some dx, rfl, J, fun b o z => by
      by_cases hb : b = hp.objs.size + 1
      · rw [hb, ge] at z
        cases z
      · exact (gk b hb).symm.trans z, ge, hae, ⟨rfl, rfl⟩, rfl, rfl, by rw [upd_ne (Ne.symm hne)]; exact n1, rfl, I1.bare, raises_own S.oex.exC S.oex.tyC, q1 dx nd⟩
end Ev
end S_X6
section S_X7
open PySem PySem.Spec PyProof.Rows L2
namespace Ev
/-- raise C(e, ..) -/
def sRaise (c : Nat) (fs : List Str) (t : RA) : RS := fun env st => (t env st).toS env fun xs st1 => match toPs xs with
  | some us => if us.length = fs.length then .ex c [.ins c fs us] env st1 else .no
  | none => .no
theorem relPs_len {w : World} {K : PySem.W.Frag} {G : Nat → Addr} {H : Hp} {Z : Addr → Prop} : ∀ {xs : List PV} {vs : List V}, RelPs w K G H Z xs vs → xs.length = vs.length := fun r => r.len
theorem pxs_raise {X : Cx} {G : Nat → Addr} {E : WE} {x : Str} {c : Nat} {fs : List Str} {e : Expr} {es : List Expr} {t : RA} {p pos pos2 : Pos} (T : SupC X.prog X.K (G c) fs) (hc : X.calm = true) (tk : Takes X (wxE X.w X.K G E)) (hr : Room 1 X.A) (hg : Gl X x) (hm : X.mg x = some (.ref (G c)))
    (ha : PXA X G E (e :: es) t) (hdb : (x == ("__debug__" : Str)) = false := by decide) (he : starEach (e :: es) X.env = (false, eval e X.env) :: starEach es X.env := by rfl) (hpl : (backTo pos (starEach es X.env)).any (·.1) = false := by rfl) :
    PXS X G E (.Raise (some (.Call (.Name x p) (e :: es) [] pos)) none pos2) (sRaise c fs t) :=
  (ps_raise hc tk (pmk_sup T hr hg hm ha hdb he hpl)).weak fun D σ H ⟨vw, env, eH, ok, re, q⟩ => by
    refine ⟨vw, env, eH, ok, re, (GS.bind q).imp fun vw1 xs l1 ok1 q1 vs rs => ?_⟩
    split at q1
    · rename_i us eu
      split at q1
      · rename_i hl
        have r := toPs_rel rs eu
        have hvl : vs.length = fs.length := by rw [← r.len]; exact hl
        refine ⟨hvl, fun dx hdx => ?_⟩
        refine ⟨vw1.grow dx (.xd (fs.zip vs)) False, env, c, [.ins c fs us], rfl, VOk.grow ok1 hdx, (re.mono l1).mono (Le.grow ok1 hdx), ⟨rfl, fs, us, dx, vs, rfl, rfl, upd_same, hvl, (Le.grow ok1 hdx).ps r, fun f => ok1.fn dx f hdx⟩, ?_⟩
        exact q1 _ (Le.grow ok1 hdx) (VOk.grow ok1 hdx) rfl
      · exact q1.elim
    · exact q1.elim
end Ev
end S_X7
section S_X8
open PySem PySem.Spec PyProof.Rows L2 HotX
namespace Ev
/-- a def called where the exception at p is handled: its body is judged at this very state -/
theorem run_hot {CX : CXT} {P : Program} {w : World} {K : PySem.W.Frag} {mg : Str → Option Value} {base : Heap} {k : Nat} {f : Addr} {name qual : Str} {params : Arguments} {body : List Stmt} {scope : Scope} {dV kV doc pm cdv ct oc : Value} {an od : Option Addr} {osl : Array (Option Value)} {N ps : List Str}
    (lk : K.lookup f = some ⟨oc, od, .func (PySem.W.fnOf name qual params body scope dV kV doc pm an cdv ct), osl⟩) (hcd : PySem.W.codeIn K cdv qual = true) (S : FnScope N ps scope) {A : Around} {outer : List Env} {s : Shared} {H : Hp} {args : Args} {us : List Value} {vs : List V} {Q : VK} {E : XK} {p : Addr × Obj}
    (hr : L2H.RoomH (k + 1) A) (hpin : L2H.PinOk outer H s p) (e0 : Env0 P w K mg base A outer s H) (hb : BindsTo s (PySem.W.fnOf name qual params body scope dV kV doc pm an cdv ct) args (ps.zip us)) (r : Vals vs us) (hl : vs.length = ps.length)
    (hbody : L2H.RoomH k (A.deeper (envOfC qual scope s.heap.objs.size f cdv)) → ∃ t, PSs (L2H.cxH CX P w K mg base N qual scope f cdv A outer s H E p) body t ∧ t { nx := fun _ H' => Q .non H', rt := Q } (L2.start N vs) H) :
    codeAny (model P w) A (.call (.ref f) args) (CR CX outer P w H s Q E) s := by
  have kin : K.In s.heap := e0.mod.kin.keeps fun b o q => (e0.bs b o q).1
  have nol : s.heap.NoLimit := e0.mod.nolimit.keeps fun b o q => (e0.bs b o q).1
  have loc : ∀ y ∈ ps.zip us, scope.names.lookup y.1 = some .local ∨ (scope.names.lookup y.1 = some .cell ∧ ((cellsFrom (s.heap.objs.size + 1) scope.names []).lookup y.1).isSome = true) := by
    rintro ⟨n, v⟩ hy
    exact (S.par n (List.of_mem_zip hy).1).imp id fun q => ⟨q, PySem.W.cellsFrom_some _ _ _ (.inl q)⟩
  refine codeAny_call_function hr.depth (kin _ _ lk) rfl S.co S.gen rfl (PySem.W.codeRec_of kin hcd) (hb _ _ _ _ (wpAny_newFunctionEnv_cells S.kind loc fun env he s1 x => ?_))
  subst he
  refine ⟨nol.keeps x.toInCall.keep, codeAny_func ?_⟩
  obtain ⟨t, ht, hq⟩ := hbody (hr.deeper _)
  have I := L2H.inv_startH (CX := CX) (E := E) S hpin e0 hl r x
  refine wpAny_mono (ht.run [] s1 (L2.start N vs) H _ I hq) (fun fl s' hs => ?_) fun e s' hs => hs
  cases fl with
  | ret u =>
    obtain ⟨v, σ', H', J, rv, q⟩ := hs
    exact ⟨v, H', J.os, J.bare, J.base, J.hok, rv, q⟩
  | next =>
    obtain ⟨σ', H', J, q⟩ := hs
    exact ⟨.non, H', J.os, J.bare, J.base, J.hok, rfl, q⟩
  | brk =>
    obtain ⟨_, _, _, q⟩ := hs
    exact q.elim
  | cont =>
    obtain ⟨_, _, _, q⟩ := hs
    exact q.elim
/-- the exception at a, of the class at D, with its dict at dd, stands through the context X -/
structure ExAt (X : Cx) (a D dd : Addr) (oe od : Obj) : Prop where
  pin : (a, oe) ∈ X.pn
  cls : oe.cls = .ref D
  dct : oe.dict = some dd
  fld : ∃ vs, oe.data = .fields vs
  nH : ∃ u, X.H_0 dd = some (.frz od u)
theorem ExAt.at_ {X : Cx} {a D dd : Addr} {oe od : Obj} (T : ExAt X a D dd oe od) {pins : List (Addr × Obj)} {σ : L2.St} {H : Hp} {s : Shared} (I : Inv X pins σ H s) : s.heap.get? dd = some od := by
  obtain ⟨u, hu⟩ := T.nH
  have h : ObjOk X.prog X.w H s.heap dd (.frz od u) := I.hok dd _ (I.base.frzs dd od u hu)
  exact h.1
theorem ExAt.inst {X : Cx} {a D dd : Addr} {oe od : Obj} (T : ExAt X a D dd oe od) {pins : List (Addr × Obj)} {σ : L2.St} {H : Hp} {s : Shared} (I : Inv X pins σ H s) : PySem.W.InstAt s.heap a oe D (some od) := by
  obtain ⟨vs, hv⟩ := T.fld
  refine ⟨(I.pin (a, oe) (List.mem_append_left _ T.pin)).1, T.cls, by unfold PySem.W.notCls; rw [hv] <;> rfl, ?_⟩
  rw [T.dct]
  exact T.at_ I
/-- what is asked of the class, so that its instances answer isinstance and give their fields -/
structure ExK (K : PySem.W.Frag) (D : Addr) : Prop where
  xf : XfC K D
  ha : PySem.W.findIn K (.ref D) "__class__" = some (some (.builtin "object.__class__"))
  hn : PySem.W.specialIn K (.builtin "object.__class__") "__get__" = some (some (.builtin "getset_descriptor.__get__"))
  ht : PySem.W.takesIn K (.builtin "object.__class__") = some true
  hm : PySem.W.mroIn K D (.type "object") = some true
def isXv (K : PySem.W.Frag) (G : Nat → Addr) (D : Addr) : PV → Option Bool
  | .glb c => PySem.W.kitOne K (.ref D) (.ref (G c))
  | .ty n => PySem.W.kitOne K (.ref D) (.type n)
  | _ => none
/-- isinstance(e, C), e the k-th fixed object -/
def bIsX (K : PySem.W.Frag) (G : Nat → Addr) (D : Addr) (k : Nat) : MF := fun xs st => match xs with
  | [.p (.glb j), .p t] => if j = k then (match isXv K G D t with | some b => .ok (.p (.bl b)) st | none => .no) else .no
  | _ => .no
theorem cb_isX {X : Cx} {G : Nat → Addr} {a D dd : Addr} {oe od : Obj} {k : Nat} (T : ExAt X a D dd oe od) (C : ExK X.K D) (hG : G k = a) : CallR X (.builtin "isinstance") (qB X.w X.K G (bIsX X.K G D k)) := by
  rintro pins s σ H vs us Q I r ⟨vw, xs, rfl, ok, rs, q⟩
  unfold bIsX at q
  split at q
  · rename_i j t
    obtain ⟨v, _, rfl, rv, v2, _, rfl, rv2, rfl⟩ := rs
    split at q
    · rename_i ej
      subst ej
      split at q
      · rename_i b eb
        have ev : v = .ref (G j) := by
          have h : RelP X.w X.K G vw.H vw.Z (.glb j) v := rv
          rw [RelP] at h
          exact h
        subst ev
        cases r with
        | cons rx rr =>
          cases rr with
          | cons rt rr =>
            cases rr
            have hx := rx
            obtain rfl : _ = Value.ref (G j) := hx
            have J := T.inst I
            have key : ∀ cv : Value, PySem.W.kitOne X.K (.ref D) cv = some b → _ := fun cv e => PySem.W.kia_one (Q := fun u s' => ∃ v H1, Inv X pins σ H1 s' ∧ RelV v u ∧ Q v H1) (E := X.xe) (prog := X.prog) (w := X.w) (A := X.A) (PySem.W.kitx_exc (x := a) (ox := oe) (od := some od) (gt := none) (by
              obtain ⟨cd, hc, _⟩ := PySem.W.any_some C.xf.hdC
              rw [hc]; rfl) C.xf.ga C.xf.gg C.xf.exC C.ha C.hn C.ht C.hm) I.kIn J e (fun z => nomatch z) fun tk => ⟨.bl b, vw.H, I.kept (t' := tk) fun _ _ z => z, rfl, q vw .rfl' ok rfl (.bl b) (by show RelP X.w X.K G vw.H vw.Z (.bl b) (.bl b); rw [RelP])⟩
            rw [hG]
            cases t with
            | glb c =>
              have e2 : v2 = .ref (G c) := by
                have h : RelP X.w X.K G vw.H vw.Z (.glb c) v2 := rv2
                rw [RelP] at h
                exact h
              subst e2
              obtain rfl : _ = Value.ref (G c) := rt
              exact key _ eb
            | ty n =>
              have e2 : v2 = .ty n := by
                have h : RelP X.w X.K G vw.H vw.Z (.ty n) v2 := rv2
                rw [RelP] at h
                exact h
              subst e2
              obtain rfl : _ = Value.type n := rt
              exact key _ eb
            | _ => cases eb
      · exact q.elim
    · exact q.elim
  · exact q.elim
end Ev
end S_X8
section S_X9
open PySem PySem.Spec PyProof.Rows L2 HotX
namespace Ev
/-- e.f, e the k-th fixed object: what the exception's field holds -/
def rFldX (k : Nat) (fv : PV) (r : RX) : RX := fun env st => (r env st).bind fun x st1 => match x with
  | .p (.glb j) => if j = k then .ok (.p fv) st1 else .no
  | _ => .no
/-- the dict od (at dd) holds at fld what fv tells -/
structure ExF (w : World) (K : PySem.W.Frag) (G : Nat → Addr) (D dd : Addr) (od : Obj) (fld : Str) (fv : PV) : Prop where
  no : PySem.W.findIn K (.ref D) fld = some none
  at_ : ∃ (mA : Str → Option Value) (u : Value) (v : V), (∀ h : Heap, h.get? dd = some od → h.Ns1 dd mA) ∧ mA fld = some u ∧ RelV v u ∧ ∀ vw : Vw, RelP w K G vw.H vw.Z fv v
theorem px_fldX {X : Cx} {G : Nat → Addr} {E : WE} {a D dd : Addr} {oe od : Obj} {k : Nat} {fv : PV} {e : Expr} {r : RX} {n : Str} {pos : Pos} (T : ExAt X a D dd oe od) (C : XfC X.K D) (hG : G k = a) (F : ExF X.w X.K G D dd od n fv) (he : PX X G E e r) (hb : attributeBase e n X.env (eval e X.env) = eval e X.env := by rfl) :
    PX X G E (.Attribute e n pos) (rFldX k fv r) := by
  refine ⟨fun pins s σ H Q I ⟨vw, env, eH, ok, re, q⟩ => ?_⟩
  refine attr_of hb (thn (he.run pins s σ H (fun v H1 => ∃ vw1 x, vw1.H = H1 ∧ VOk X.w X.K G vw1 ∧ RelVV X.w X.K G vw1 x v ∧ GQ X.w X.K G vw1 (fun vw' => E vw' env) (match x with | .p (.glb j) => if j = k then (.ok (.p fv) vw1.st : Res VV) else .no | _ => .no) fun vw' x => ∀ v, RelVV X.w X.K G vw' x v → Q v vw'.H) I ⟨vw, env, eH, ok, re, (GQ.bind q).imp fun vw1 x l1 ok1 q1 v rv => ⟨vw1, x, rfl, ok1, rv, q1⟩⟩) fun u s1 ⟨v, H1, I1, ru, vw1, x, eH1, ok1, rv, q1⟩ => ?_)
  subst eH1
  split at q1
  · rename_i j
    split at q1
    · rename_i ej
      subst ej
      have h : RelP X.w X.K G vw1.H vw1.Z (.glb j) v := rv
      rw [RelP] at h
      subst h
      obtain rfl : u = Value.ref (G j) := ru
      have J := T.inst I1
      obtain ⟨mA, uu, vv, hns, hm, rr, rp⟩ := F.at_
      have hob : s1.heap.get? dd = some od := T.at_ I1
      obtain ⟨od2, ho, hl⟩ := lookIn_ns (hns _ hob)
      have e2 : od2 = od := Option.some.inj (ho.symm.trans hob)
      subst e2
      rw [hG]
      exact HandSPX.exc_get I1.kIn J C.ga C.gg C.exC (PySem.W.findObj_own C.hdC F.no rfl (by rw [hl, hm])) (handed_of rr) ⟨vv, vw1.H, I1.tok _, rr, q1 vw1 .rfl' ok1 rfl vv (rp vw1)⟩
    · exact q1.elim
  · exact q1.elim
end Ev
end S_X9
section S_X10
open PySem PySem.Spec PyProof.Rows L2 HotX
namespace Ev
/-- a value's address -/
def adrV : V → Addr
  | .ref r => r
  | _ => 0
/-- a value of the layer as a fixed one, of the index k -/
def fvOf (k : Nat) : V → PV
  | .bl b => .bl b
  | .int i => .int i
  | .str s => .str s
  | .ref _ => .glb k
  | .ty n => .ty n
  | _ => .non
def plainV : V → Bool
  | .byt _ => false
  | .flt _ => false
  | _ => true
theorem relP_plain {w : World} {K : PySem.W.Frag} {G : Nat → Addr} {H : Hp} {Z : Addr → Prop} {x : PV} {v : V} (h : RelP w K G H Z x v) : plainV v = true := by
  cases x with
  | dct nk ks us =>
    cases nk <;> · rw [RelP] at h; obtain ⟨a, rfl, _⟩ := h; rfl
  | non => rw [RelP] at h; subst h; rfl
  | bl b => rw [RelP] at h; subst h; rfl
  | int b => rw [RelP] at h; subst h; rfl
  | str b => rw [RelP] at h; subst h; rfl
  | ty b => rw [RelP] at h; subst h; rfl
  | glb b => rw [RelP] at h; subst h; rfl
  | tup xs => rw [RelP] at h; obtain ⟨a, vs, rfl, _⟩ := h; rfl
  | lst xs => rw [RelP] at h; obtain ⟨a, vs, rfl, _⟩ := h; rfl
  | lsf xs => rw [RelP] at h; obtain ⟨a, vs, rfl, _⟩ := h; rfl
  | ins c fs us => rw [RelP] at h; obtain ⟨a, dx, vs, rfl, _⟩ := h; rfl
theorem fv_rel {w : World} {K : PySem.W.Frag} {G : Nat → Addr} {H : Hp} {Z : Addr → Prop} {k : Nat} {v v' : V} (hp : plainV v = true) (hG : G k = adrV v ∨ ∀ r, v ≠ .ref r) : RelP w K G H Z (fvOf k v) v' ↔ v' = v := by
  cases v with
  | byt b => cases hp
  | flt b => cases hp
  | ref r =>
    show RelP w K G H Z (.glb k) v' ↔ _
    rw [RelP]
    rcases hG with e | e
    · rw [e] <;> exact Iff.rfl
    · exact absurd rfl (e r)
  | non => show RelP w K G H Z .non v' ↔ _; rw [RelP]
  | bl b => show RelP w K G H Z (.bl b) v' ↔ _; rw [RelP]
  | int b => show RelP w K G H Z (.int b) v' ↔ _; rw [RelP]
  | str b => show RelP w K G H Z (.str b) v' ↔ _; rw [RelP]
  | ty b => show RelP w K G H Z (.ty b) v' ↔ _; rw [RelP]
/-- the fixed objects of the handler: the exception, and what its fields hold -/
def Gx (G : Nat → Addr) (a : Addr) (vs : List V) : Nat → Addr := fun j => if j = 2000 then a else if j = 2001 then adrV (vs.getD 0 .non) else if j = 2002 then adrV (vs.getD 1 .non) else G j
def fvs (vs : List V) : List PV := vs.zipIdx.map fun p => fvOf (2001 + p.2) p.1
theorem VOk.againG {w : World} {K : PySem.W.Frag} {G G' : Nat → Addr} {vw vw1 : Vw} (ok : VOk w K G vw) (l : Le K vw.aside vw1) (ok1 : VOk w K G' vw1) (hG : ∀ k, G (1000 + k) = G' (1000 + k) ∨ lamNames[k]? = none) : VOk w K G (vw.again vw1) where
  zf := fun a h1 h2 => ok1.zf a h1 (by rw [l.f]; exact .inl h2)
  fn := fun a h => ok1.fn a (by rw [l.f]; exact .inl h)
  zn := ok1.zn
  ob := fun n o e => (ok.ob n o e).mono (Le.again l) (l.fr _ (.inr ⟨n, o, e, rfl⟩))
  nz := fun n o e => ⟨fun z => ok1.zf _ z (by rw [l.f]; exact .inr ⟨n, o, e, rfl⟩), (ok.nz n o e).2⟩
  inj := ok.inj
  tab := fun k q P e1 e2 => (ok1.tab k q P e1 (by
    rcases hG k with h | h
    · rw [← h]; exact e2
    · rw [h] at e1; cases e1)).move (fun _ h => h) (fun _ z => .inl z) (fun a f => .inl (by rw [l.f]; exact .inl f)) (fun _ e => e) fun _ _ _ _ e => e
/-- the exception's dict is fixed -/
theorem fix_dict {w : World} {K : PySem.W.Frag} {G G' : Nat → Addr} {vw : Vw} {dd : Addr} {fs : List (Str × V)} {od : Obj} (ok : VOk w K G vw) (hd : vw.H dd = some (.xd fs)) (hf : ¬ vw.F dd) (hG : ∀ k, G (1000 + k) = G' (1000 + k) ∨ lamNames[k]? = none) :
    Le K vw.aside { vw.aside with H := upd vw.H dd (.frz od (.xd fs)) } ∧ VOk w K G' { vw.aside with H := upd vw.H dd (.frz od (.xd fs)) } := by
  have okA := ok.aside
  have hfA : ¬ vw.aside.F dd := fun f => f.elim hf fun ⟨n, o, e, q⟩ => by
    have h := ok.ob n o e
    rw [q] at h
    cases o with
    | lst lk xs => obtain ⟨vs, h1, _⟩ := h; rw [hd] at h1; cases h1
    | dct nk lk ks us =>
      cases nk with
      | true =>
        obtain ⟨xs, h1, _⟩ := h
        cases lk with
        | true => obtain ⟨o, h1⟩ := h1; rw [hd] at h1; cases h1
        | false => rw [show vw.H dd = _ from h1] at hd; cases hd
      | false =>
        obtain ⟨xs, h1, _⟩ := h
        cases lk with
        | true => obtain ⟨o, h1⟩ := h1; rw [hd] at h1; cases h1
        | false => rw [show vw.H dd = _ from h1] at hd; cases hd
    | ins c gs us => obtain ⟨dx, vs, h1, _⟩ := h; rw [hd] at h1; cases h1
    | lkl xs => obtain ⟨vs, ⟨o, h1⟩, _⟩ := h; rw [hd] at h1; cases h1
  refine ⟨⟨fun _ h => h, fun a u z r => ?_, fun a o z li e => ?_, rfl, fun a f => ?_, fun a vs h => ?_, fun _ _ => rfl, Nat.le_refl _, fun a o u e => ?_⟩, ⟨okA.zf, fun a f => ?_, fun a z => ?_, fun n o e => absurd (show ([] : Sto)[n]? = some (some o) from e) (by simp), fun n o e => absurd (show ([] : Sto)[n]? = some (some o) from e) (by simp), fun n m o o' e => absurd (show ([] : Sto)[n]? = some (some o) from e) (by simp), ?_⟩⟩
  · by_cases h : a = dd
    · subst h
      rcases r with r | ⟨o, r⟩
      · rw [show vw.aside.H a = _ from hd] at r
        cases r
        exact .inr ⟨od, upd_same⟩
      · rw [show vw.aside.H a = _ from hd] at r
        cases r
    · exact Rd.upd r h
  · show upd vw.H dd _ a = _
    rw [upd_ne (fun h => by rw [h, show vw.aside.H dd = _ from hd] at e; cases e; cases li)]
    exact e
  · show upd vw.H dd _ a = _
    rw [upd_ne (fun h => hfA (by rw [← h]; exact f))]
    rfl
  · rcases h with h | h
    · refine .inl (Rd.upd h fun q => ?_)
      rw [q] at h
      rcases h with h | ⟨o', h⟩ <;> rw [show vw.aside.H dd = _ from hd] at h <;> cases h
    · exact .inr h
  · show upd vw.H dd _ a = _
    rw [upd_ne (fun h => by rw [h, show vw.aside.H dd = _ from hd] at e; cases e)]
    exact e
  · show upd vw.H dd _ a ≠ none
    by_cases h : a = dd
    · rw [h, upd_same]; exact fun z => nomatch z
    · rw [upd_ne h]; exact okA.fn a f
  · show upd vw.H dd _ a ≠ none
    by_cases h : a = dd
    · rw [h, upd_same]; exact fun z => nomatch z
    · rw [upd_ne h]; exact okA.zn a z
  · exact fun k q P e1 e2 => (okA.tab k q P e1 (by
      rcases hG k with h | h
      · rw [h]; exact e2
      · rw [h] at e1; cases e1)).move (fun _ h => h) (fun _ z => .inl z) (fun _ f => .inl f) (fun ps e => by
        show upd vw.H dd _ P = _
        rw [upd_ne (fun h => by rw [h, show vw.aside.H dd = _ from hd] at e; cases e)]
        exact e) fun x o u _ e => by
        show upd vw.H dd _ x = _
        rw [upd_ne (fun h => by rw [h, show vw.aside.H dd = _ from hd] at e; cases e)]
        exact e
end Ev
end S_X10
section S_X11
open PySem PySem.Spec PyProof.Rows L2 HotX
namespace Ev
theorem relPs_get {w : World} {K : PySem.W.Frag} {G : Nat → Addr} {H : Hp} {Z : Addr → Prop} : ∀ {xs : List PV} {vs : List V} {j : Nat} {v : V}, RelPs w K G H Z xs vs → vs[j]? = some v → ∃ x, xs[j]? = some x ∧ RelP w K G H Z x v
  | [], vs, j, v, h, e => by rw [RelPs] at h; subst h; simp at e
  | x :: xs, _, 0, v, h, e => by
    rw [RelPs] at h
    obtain ⟨u, r, rfl, h1, h2⟩ := h
    simp at e
    subst e
    exact ⟨x, rfl, h1⟩
  | x :: xs, _, j + 1, v, h, e => by
    rw [RelPs] at h
    obtain ⟨u, r, rfl, h1, h2⟩ := h
    simp at e
    obtain ⟨y, e1, e2⟩ := relPs_get h2 e
    exact ⟨y, by simpa using e1, e2⟩
theorem zip_look {fs : List Str} {vs : List V} {j : Nat} {f : Str} (hn : fs.Nodup) (hl : vs.length = fs.length) (hf : fs[j]? = some f) : ∃ v, vs[j]? = some v ∧ (fs.zip vs).lookup f = some v := by
  induction fs generalizing vs j with
  | nil => simp at hf
  | cons g gs ih =>
    cases vs with
    | nil => cases hl
    | cons v vs =>
      rw [List.nodup_cons] at hn
      cases j with
      | zero =>
        simp at hf
        subst hf
        exact ⟨v, rfl, by simp [List.lookup]⟩
      | succ j =>
        simp at hf
        obtain ⟨u, e1, e2⟩ := ih hn.2 (by simpa using hl) hf
        refine ⟨u, by simpa using e1, ?_⟩
        have hne : (f == g) = false := by
          rw [beq_eq_false_iff_ne]
          intro e
          exact hn.1 (by rw [← e]; exact List.mem_of_getElem? hf)
        simp only [List.zip_cons_cons, List.lookup_cons, hne]
        exact e2
theorem fvs_get {vs : List V} {j : Nat} {v : V} (h : vs[j]? = some v) : (fvs vs).getD j .non = fvOf (2001 + j) v := by
  unfold fvs
  rw [List.getD_eq_getElem?_getD, List.getElem?_map, List.getElem?_zipIdx, h]
  simp
theorem fvs_len (vs : List V) : (fvs vs).length = vs.length := by unfold fvs; simp
theorem gx_tab {G : Nat → Addr} {a : Addr} {vs : List V} (k : Nat) : G (1000 + k) = Gx G a vs (1000 + k) ∨ lamNames[k]? = none := by
  by_cases h : k < lamNames.length
  · left
    have h4 : lamNames.length = 4 := rfl
    unfold Gx
    rw [if_neg (by omega), if_neg (by omega), if_neg (by omega)]
  · exact .inr (List.getElem?_eq_none (by omega))
theorem gx_fld {G : Nat → Addr} {a : Addr} {vs : List V} {j : Nat} {v : V} (h : vs[j]? = some v) (hl : vs.length ≤ 2) : Gx G a vs (2001 + j) = adrV v := by
  have hj : j < vs.length := (List.getElem?_eq_some_iff.mp h).1
  unfold Gx
  rw [if_neg (by omega)]
  have hj2 : j = 0 ∨ j = 1 := by omega
  rcases hj2 with rfl | rfl
  · rw [if_pos rfl, List.getD_eq_getElem?_getD, h] <;> rfl
  · rw [if_neg (by omega), if_pos rfl, List.getD_eq_getElem?_getD, h] <;> rfl
/-- fixed field values back to the values -/
theorem fvs_back {w : World} {K : PySem.W.Frag} {G' : Nat → Addr} {H : Hp} {Z : Addr → Prop} {vs : List V} (hp : ∀ v ∈ vs, plainV v = true) (hG : ∀ j v, vs[j]? = some v → G' (2001 + j) = adrV v) {ws : List V} (h : RelPs w K G' H Z (fvs vs) ws) : ws = vs := by
  have hl : ws.length = vs.length := by rw [← h.len, fvs_len]
  refine List.ext_getElem? fun j => ?_
  by_cases hj : j < vs.length
  · have e1 : vs[j]? = some vs[j] := List.getElem?_eq_getElem hj
    have e2 : ws[j]? = some ws[j] := List.getElem?_eq_getElem (by omega)
    obtain ⟨x, ex, rx⟩ := relPs_get h e2
    have ex2 : x = fvOf (2001 + j) vs[j] := by
      have := fvs_get e1
      rw [List.getD_eq_getElem?_getD, ex] at this
      exact this
    rw [ex2] at rx
    rw [e1, e2, (fv_rel (hp _ (List.getElem_mem hj)) (.inl (hG j _ e1))).mp rx]
  · rw [List.getElem?_eq_none (by omega), List.getElem?_eq_none (by omega)]
/-- what _law_refusal makes of an exception of the class c -/
def tRef (w : World) (K : PySem.W.Frag) (G : Nat → Addr) (c : Nat) (nm : Str) (fs : List Str) (i : Nat) (a : Addr) (cls : Value) (d : Option Addr) : TE := fun σ H Q => σ[i]? = some (some (.ref a)) ∧ ∃ vw us dd vs, vw.H = H ∧ VOk w K G vw ∧ cls = .ref (G c) ∧ d = some dd ∧ vw.H dd = some (.xd (fs.zip vs)) ∧ vs.length = fs.length ∧
  RelPs w K G vw.H vw.Z us vs ∧ ¬ vw.F dd ∧ ∀ vw' v, Le K vw vw' → VOk w K G vw' → vw'.st = vw.st → RelP w K G vw'.H vw'.Z (.tup (.str nm :: us)) v → Q v vw'.H
/-- nothing may be let out -/
def CXf : CXT := fun _ _ _ _ _ _ => False
theorem pe_refuse {X : Cx} {G : Nat → Addr} {c : Nat} {nm : Str} {fs : List Str} {i k : Nat} {a : Addr} {oe : Obj} {cls : Value} {d : Option Addr} {pn : List (Addr × Obj)} {x en rn : Str} {p1 p2 pos : Pos} {f : Addr} {fd : FuncData} {params : Arguments} {body : List Stmt} {scope : Scope} {N : List Str}
    (F : FunD X.K rn rn params body scope [] [] f fd) (S : FnScope N ["e"] scope) (hb : Binds X.K fd ["e"] []) (hr : L2H.RoomH (k + 1) (X.suite a ((a, oe) :: pn)).A) (hg : Gl X x) (hm : X.mg x = some (.ref f)) (hi : X.N[i]? = some en) (hv : Vis X.env.scope en)
    (hz : Zc cls d oe) (hf : ∃ vs, oe.data = .fields vs) (hfl : fs.length ≤ 2) (hfn : fs.Nodup) (hno : ∀ g ∈ fs, PySem.W.findIn X.K (.ref (G c)) g = some none)
    (hbody : ∀ (cdv : Value) (A : Around) (outer : List Env) (s : Shared) (H : Hp) (E : XK) (dd : Addr) (od : Obj) (vs : List V), L2H.RoomH k (A.deeper (envOfC rn scope s.heap.objs.size f cdv)) → vs.length = fs.length →
      ExAt (L2H.cxH CXf X.prog X.w X.K X.mg X.base N rn scope f cdv A outer s H E (a, oe)) a (G c) dd oe od → (∀ j g, fs[j]? = some g → ExF X.w X.K (Gx G a vs) (G c) dd od g ((fvs vs).getD j .non)) →
      ∃ rs st', PXSs (L2H.cxH CXf X.prog X.w X.K X.mg X.base N rn scope f cdv A outer s H E (a, oe)) (Gx G a vs) noE body rs ∧ rs (envOf N.length [.p (.glb 2000)]) [] = .rt (.p (.tup (.str nm :: fvs vs))) st')
    (hdb : (x == ("__debug__" : Str)) = false := by decide) (hd1 : (en == ("__debug__" : Str)) = false := by decide) (hd2 : (en == ("__classdict__" : Str)) = false := by decide)
    (he : starEach [.Name en p2] X.env = [(false, eval (.Name en p2) X.env)] := by rfl) :
    PE (X.suite a ((a, oe) :: pn)) (.Call (.Name x p1) [.Name en p2] [] pos) (tRef X.w X.K G c nm fs i a cls d) := by
  refine ⟨fun pins s σ H Q I ⟨hσ, vw, us, dd, vs, eH, ok, ec, ed, hxd, hvl, hrel, hnf, hq⟩ => ?_⟩
  subst eH
  obtain ⟨oc, odf, dV, kV, doc, pm, an, cdv, ct, osl, efd, lk, hcd, _, _⟩ := F.ex
  refine wpAny_Call_Name_kw (ld_glob (X := X.suite a ((a, oe) :: pn)) I hg hm ?_ hdb)
  have hpa : PA (X.suite a ((a, oe) :: pn)) [.Name en p2] _ := pa_cons (pe_var (pos := p2) hi hv hd1 hd2) pa_nil
  refine PySem.W.callWith_K (h₀ := X.base) I.ok.mod.kin F.kp (thn (hpa.run pos pins s σ vw.H (fun ws H1 => ws = [.ref a] ∧ H1 = vw.H) I ⟨.ref a, hσ, rfl, rfl⟩) fun us1 s1 ⟨ws, H1, I1, r1, e1, e2⟩ => ⟨I1.kIn, ?_⟩) (by exact he) (by rfl)
  subst e1 e2
  obtain ⟨ua, rfl⟩ : ∃ u, us1 = [u] := by
    cases r1 with
    | cons a b => cases b; exact ⟨_, rfl⟩
  obtain rfl : ua = Value.ref a := by
    cases r1 with
    | cons a b => exact a
  show wpAny _ _ (call (.ref f) [.ref a]) _ _ _
  -- the exception's dict
  have hxo : ObjOk X.prog X.w vw.H s1.heap dd (.xd (fs.zip vs)) := I1.hok dd _ hxd
  obtain ⟨mA, hns, hrl⟩ := hxo
  obtain ⟨od, hod, _⟩ := lookIn_ns hns
  have hns' : ∀ h : Heap, h.get? dd = some od → h.Ns1 dd mA := fun h e => by
    obtain ⟨o, es, ep, e1, r⟩ := hns
    have : o = od := Option.some.inj (e1.symm.trans hod)
    subst this
    exact ⟨o, es, ep, e, r⟩
  obtain ⟨l0, ok0⟩ := fix_dict (G' := Gx G a vs) (od := od) ok hxd hnf gx_tab
  have hda : ∀ b u, vw.H b = some u → (∀ q, u ≠ .xd q) → b ≠ dd := fun b u e n q => by
    rw [q, hxd] at e
    exact n _ (Option.some.inj e).symm
  have I2 : Inv (X.suite a ((a, oe) :: pn)) pins σ (upd vw.H dd (.frz od (.xd (fs.zip vs)))) s1 := by
    have U : Un (X.suite a ((a, oe) :: pn)).fs [] vw.H (upd vw.H dd (.frz od (.xd (fs.zip vs)))) s1.heap s1.heap := {
      keep := fun b o e _ _ _ => e
      slot := fun b o e _ _ _ => ⟨o.slots, e⟩
      free := fun b o e n _ => by rw [upd_ne (fun q => by rw [q, hxd] at n; cases n)]; exact n
      there := fun b o e _ => ⟨o, e⟩
      tups := fun b xs e => by rw [upd_ne (hda b _ e fun _ z => nomatch z)]; exact e
      frzs := fun b o u e => by rw [upd_ne (hda b _ e fun _ z => nomatch z)]; exact e
      tbls := fun b ps e => ⟨#[], by rw [upd_ne (hda b _ e fun _ z => nomatch z), e]; simp⟩ }
    refine I1.un (t' := s1.toks) U fun b o e => ?_
    by_cases hb : b = dd
    · subst hb
      rw [upd_same] at e
      cases e
      exact ⟨hod, (I1.hok b _ hxd)⟩
    · rw [upd_ne hb] at e
      exact (I1.hok b o e).stay (fun c u _ q => q) (fun c hc => by rw [upd_ne (hda c _ hc fun _ z => nomatch z)]; exact hc) (fun c xs hc => by rw [upd_ne (hda c _ hc fun _ z => nomatch z)]; exact hc)
  have P1 := I2.pin (a, oe) (List.mem_append_left _ List.mem_cons_self)
  have hpin : L2H.PinOk X.stack (upd vw.H dd (.frz od (.xd (fs.zip vs)))) s1 (a, oe) := ⟨P1.1, P1.2.1, fun hm => (List.mem_cons.mp (I2.stkSub a hm)).elim P1.2.2.1 P1.2.2.2.1, P1.2.2.2.2⟩
  have hbind := hb s1 [.ref a] I2.kIn rfl
  rw [List.append_nil, efd] at hbind
  have hpl : ∀ v ∈ vs, plainV v = true := fun v hv => by
    obtain ⟨j, hj⟩ := List.mem_iff_getElem?.mp hv
    obtain ⟨x, _, rx⟩ := relPs_get hrel hj
    exact relP_plain rx
  refine wpAny_call (codeAny_mono (run_hot (CX := CXf) (k := k) (N := N) (ps := ["e"]) (us := [.ref a]) (vs := [.ref a]) (Q := fun v H1 => ∃ vw1, vw1.H = H1 ∧ VOk X.w X.K (Gx G a vs) vw1 ∧ Le X.K { vw.aside with H := upd vw.H dd (.frz od (.xd (fs.zip vs))) } vw1 ∧ RelP X.w X.K (Gx G a vs) vw1.H vw1.Z (.tup (.str nm :: fvs vs)) v) (E := fun _ _ _ => False)
    (by rw [← efd]; exact lk) hcd S hr hpin I2.env0 hbind (.cons rfl .nil) rfl fun hr' => ?_) fun r s' hq' => ?_)
  · have T : ExAt (L2H.cxH CXf X.prog X.w X.K X.mg X.base N rn scope f cdv (X.suite a ((a, oe) :: pn)).A X.stack s1 (upd vw.H dd (.frz od (.xd (fs.zip vs)))) (fun _ _ _ => False) (a, oe)) a (G c) dd oe od :=
      ⟨List.mem_cons_self, hz.1.trans ec, hz.2.trans ed, hf, ⟨_, upd_same⟩⟩
    obtain ⟨rs, st', hP, hrs⟩ := hbody cdv (X.suite a ((a, oe) :: pn)).A X.stack s1 (upd vw.H dd (.frz od (.xd (fs.zip vs)))) (fun _ _ _ => False) dd od vs hr' hvl T fun j g hg => by
      obtain ⟨v, ev, el⟩ := zip_look hfn hvl hg
      obtain ⟨u, hu, ru⟩ := RelO.some_of (v := v) (o := mA g) (by rw [← el]; exact hrl g)
      refine ⟨hno g (List.mem_of_getElem? hg), mA, u, v, hns', hu, ru, fun vw' => ?_⟩
      rw [fvs_get ev]
      exact (fv_rel (hpl v (List.mem_of_getElem? ev)) (.inl (gx_fld ev (by omega)))).mpr rfl
    refine ⟨_, hP, _, envOf N.length [.p (.glb 2000)], rfl, ok0, rep_start (xs := [.p (.glb 2000)]) (vs := [.ref a]) ⟨.ref a, [], rfl, ?_, rfl⟩, ?_⟩
    · show RelP X.w X.K (Gx G a vs) (upd vw.H dd (.frz od (.xd (fs.zip vs)))) vw.aside.Z (.glb 2000) (.ref a)
      rw [RelP]
      rfl
    · show GS X.w X.K (Gx G a vs) _ noE (rs (envOf N.length [.p (.glb 2000)]) []) _
      rw [hrs]
      exact fun vw' v l o es rv => ⟨vw', rfl, o, l, rv⟩
  · cases r with
    | error e => exact (show False from hq').elim
    | ok fl =>
      cases fl with
      | ret u =>
        obtain ⟨v, H1, I3, rv, vw1, eH1, ok1, l1, rt⟩ := I2.after hq'
        subst eH1
        refine ⟨v, vw1.H, I3, rv, ?_⟩
        have lA := l0.trans l1
        refine hq (vw.again vw1) v (Le.again lA) (VOk.againG ok lA ok1 gx_tab) rfl ?_
        show RelP X.w X.K G vw1.H vw1.Z (.tup (.str nm :: us)) v
        rw [RelP] at rt ⊢
        obtain ⟨t, zs, ev, sq, hl, rz⟩ := rt
        refine ⟨t, zs, ev, sq, hl, ?_⟩
        rw [RelPs] at rz ⊢
        obtain ⟨z0, zr, ez, r0, rr⟩ := rz
        have hzr := fvs_back (vs := vs) hpl (fun j v h => gx_fld h (by omega)) rr
        subst hzr
        rw [RelP] at r0
        exact ⟨z0, zr, ez, by rw [RelP]; exact r0, (Le.again lA).ps hrel⟩
      | next => exact False.elim hq'
      | brk => exact False.elim hq'
      | cont => exact False.elim hq'
end Ev
end S_X11
section S_X12
open PySem PySem.Spec PyProof.Rows L2 HotX
namespace Ev
section
variable {X : Cx} {G : Nat → Addr} {pins : List (Addr × Obj)} {σ : L2.St} {s : Shared} {vw : Vw}
/-- a new code object of the table -/
theorem tab_grow {k : Nat} {q : Str} {P c' : Addr} {ps more : Array Value} {oc : Obj} (ok : VOk X.w X.K G vw) (hk : lamNames[k]? = some q) (hP : G (1000 + k) = P + 1) (hu : ∀ k' q', lamNames[k']? = some q' → G (1000 + k') = P + 1 → q' = q) (eP : vw.H P = some (.tbl ps)) (nc : vw.H c' = none)
    (ht : TriplesOk (ps ++ more).toList) (ha : ∀ (pos : Pos) (cv : Value), codeAmong pos (ps ++ more).toList = some cv → codeAmong pos ps.toList = some cv ∨ cv = .ref c') :
    Le X.K vw { vw with H := upd (upd vw.H P (.tbl (ps ++ more))) c' (.frz oc (LamX.CodeO c' q)), Z := fun a => vw.Z a ∨ a = c' } ∧ VOk X.w X.K G { vw with H := upd (upd vw.H P (.tbl (ps ++ more))) c' (.frz oc (LamX.CodeO c' q)), Z := fun a => vw.Z a ∨ a = c' } := by
  obtain ⟨nz, nf, ps', eP', hT, hA⟩ := ok.tab k q P hk hP
  have same : ∀ b, b ≠ P → b ≠ c' → upd (upd vw.H P (.tbl (ps ++ more))) c' (.frz oc (LamX.CodeO c' q)) b = vw.H b := fun b h1 h2 => by rw [upd_ne h2, upd_ne h1]
  have nP : ∀ b u, vw.H b = some u → (∀ z, u ≠ .tbl z) → b ≠ P := fun b u e n z => by
    rw [z, eP] at e
    exact n _ (Option.some.inj e).symm
  have nC : ∀ b, vw.H b ≠ none → b ≠ c' := fun b e z => e (by rw [z]; exact nc)
  have hPc : P ≠ c' := nC P (by rw [eP]; exact fun z => nomatch z)
  have zP : ∀ a, vw.Z a → a ≠ P := fun a h z => nz (by rw [← z]; exact h)
  have fP : ∀ a, vw.F a → a ≠ P := fun a h z => nf (by rw [← z]; exact h)
  have hle : Le X.K vw { vw with H := upd (upd vw.H P (.tbl (ps ++ more))) c' (.frz oc (LamX.CodeO c' q)), Z := fun a => vw.Z a ∨ a = c' } := by
    refine ⟨fun _ h => .inl h, fun a u z r => ?_, fun a o z _ e => ?_, rfl, fun a f => same a (fP a f) (nC a (ok.fn a f)), fun a vs h => ?_, fun _ _ => rfl, Nat.le_refl _, fun a o u e => ?_⟩
    · have e := same a (zP a z) (nC a (ok.zn a z))
      exact r.imp (fun r => e.trans r) fun ⟨o, r⟩ => ⟨o, e.trans r⟩
    · exact (same a (zP a z) (nC a (ok.zn a z))).trans e
    · rcases h with h | h
      · refine .inl ?_
        have e : upd (upd vw.H P (.tbl (ps ++ more))) c' (.frz oc (LamX.CodeO c' q)) a = vw.H a := by
          rcases h with h | ⟨o, h⟩
          · exact same a (nP a _ h fun _ z => nomatch z) (nC a (by rw [h]; exact fun z => nomatch z))
          · exact same a (nP a _ h fun _ z => nomatch z) (nC a (by rw [h]; exact fun z => nomatch z))
        exact h.imp (fun r => e.trans r) fun ⟨o, r⟩ => ⟨o, e.trans r⟩
      · exact .inr h
    · exact (same a (nP a _ e fun _ z => nomatch z) (nC a (by rw [e]; exact fun z => nomatch z))).trans e
  refine ⟨hle, ⟨fun a h1 h2 => h1.elim (fun h => ok.zf a h h2) fun h => ok.fn a h2 (by rw [h]; exact nc), fun a f => ?_, fun a z => ?_, fun m o e => (ok.ob m o e).mono hle (same _ (fun z => (ok.ob m o e).notb ps (by rw [z]; exact eP)) (nC _ (ok.ob m o e).some)), fun m o e => ⟨fun z => z.elim (ok.nz m o e).1 (nC _ (ok.ob m o e).some), (ok.nz m o e).2⟩, ok.inj, fun k' q' P' e1 e2 => ?_⟩⟩
  · show upd (upd vw.H P _) c' _ a ≠ none
    rw [same a (fP a f) (nC a (ok.fn a f))]
    exact ok.fn a f
  · show upd (upd vw.H P _) c' _ a ≠ none
    rcases z with z | z
    · rw [same a (zP a z) (nC a (ok.zn a z))]
      exact ok.zn a z
    · rw [z, upd_same]
      exact fun z => nomatch z
  · obtain ⟨n1, n2, ps2, b1, b2, b3⟩ := ok.tab k' q' P' e1 e2
    have hPc' : P' ≠ c' := nC P' (by rw [b1]; exact fun z => nomatch z)
    refine ⟨fun z => z.elim n1 hPc', n2, ?_⟩
    by_cases hp : P' = P
    · have eq' := hu k' q' e1 (by rw [← hp]; exact e2)
      subst hp
      rw [eP] at b1
      cases b1
      refine ⟨ps ++ more, by show upd (upd vw.H P' _) c' _ P' = _; rw [upd_ne hPc', upd_same], ht, fun pos cv e => ?_⟩
      rcases ha pos cv e with e | e
      · obtain ⟨c, o, x1, x2, x3⟩ := b3 pos cv e
        exact ⟨c, o, x1, .inl x2, (same c (zP c x2) (nC c (ok.zn c x2))).trans x3⟩
      · exact ⟨c', oc, e, .inr rfl, by show upd (upd vw.H P' _) c' _ c' = _; rw [upd_same, eq']⟩
    · refine ⟨ps2, by show upd (upd vw.H P _) c' _ P' = _; rw [same P' hp hPc']; exact b1, b2, fun pos cv e => ?_⟩
      obtain ⟨c, o, x1, x2, x3⟩ := b3 pos cv e
      exact ⟨c, o, x1, .inl x2, (same c (zP c x2) (nC c (ok.zn c x2))).trans x3⟩
end
end Ev
end S_X12
section S_X13
open PySem PySem.Spec PyProof.Rows L2 HotX
namespace Ev
section
variable {X : Cx} {G : Nat → Addr} {pins : List (Addr × Obj)} {σ : L2.St} {s : Shared} {vw : Vw}
/-- a lambda's function object is made; dV: its defaults, laid already -/
theorem lam_tail {k : Nat} {q : Str} {P c : Addr} {params : Arguments} {body : Expr} {scope : Scope} {pos : Pos} {ln : Nat} {dV : Value} {E : Value → Shared → Prop} {Q : Value → Shared → Prop} (I : Inv X pins σ vw.H s) (ok : VOk X.w X.K G vw)
    (hk : lamNames[k]? = some q) (hP : G (1000 + k) = P + 1) (hu : ∀ k' q', lamNames[k']? = some q' → G (1000 + k') = P + 1 → q' = q) (TB : LamX.TabB X.base X.mg c P) (hcode : X.env.code = .ref c) (hfree : ∀ y ∈ scope.names, y.2 = .free → ∃ c, X.env.cells.lookup y.1 = some c)
    (h : ∀ (f c' : Addr) (doc pm ctv : Value) (vw1 : Vw) (s' : Shared), Inv X pins σ vw1.H s' → Le X.K vw vw1 → VOk X.w X.K G vw1 → vw1.st = vw.st → (∀ b o, b ≠ P → s.heap.get? b = some o → s'.heap.get? b = some o) → (∀ b o, s.heap.get? b = some o → vw.H b = none → vw1.H b = none) →
      s'.heap.get? f = some (PySem.W.kdv_obj "<lambda>" q params (.expr body) scope (cloFrom X.env.cells scope.names []) dV doc pm c' ctv) → vw1.H f = none → f ∉ frs X.stack → (∃ oc, vw1.H c' = some (.frz oc (LamX.CodeO c' q))) → s.heap.objs.size ≤ f → Q (.ref f) s') :
    wpAny (model X.prog X.w) X.A (makeTail "<lambda>" q params (.expr body) scope X.env dV .none none pos ln) Q E s := by
  obtain ⟨nz, nf, ps, eP, hT, hA⟩ := ok.tab k q P hk hP
  have bP : s.heap.BuiltinsAt X.mg P := TB.bm.keeps I.bk
  have hP' : s.heap.get? P = some { cls := .none, data := .fields ps } := I.hok P _ eP
  have nofr : ∀ f, s.heap.objs.size ≤ f → f ∉ frs X.stack := fun f hf z => by
    rcases List.mem_cons.mp (I.stkSub _ z) with e | e
    · have h1 := I.lt
      rw [← e] at h1
      exact Nat.lt_irrefl _ (Nat.lt_of_lt_of_le h1 hf)
    · exact I.nofs hf e
  cases hc : codeAmong pos ps.toList with
  | none =>
    refine PySem.W.kdv_makeTail (mg := X.mg) (c := c) (P := P) (ps := ps) (closure_ok hfree) I.ok.glob (I.mod.glob.keeps I.bk) hcode (TB.code.keeps I.bk) hP' hT hc TB.gP bP fun c' ctv doc h' tk hx hge hlt hrec htb => ?_
    obtain ⟨c2, oc, fv, t, e2, hoc, hd, hv⟩ := hrec
    cases e2
    have hsz : s.heap.objs.size ≤ h'.objs.size := Nat.le_trans hge (Nat.le_of_lt hlt)
    have nC : vw.H c' = none := I.hok.fresh hge
    have eL : (ps ++ #[rawInt pos.line, rawInt pos.col, .ref c']).toList = ps.toList ++ [rawInt pos.line, rawInt pos.col, .ref c'] := by simp
    have kk : ∀ b o, b ≠ P → s.heap.get? b = some o → (h'.push (PySem.W.kdv_obj "<lambda>" q params (.expr body) scope (cloFrom X.env.cells scope.names []) dV doc ((X.mg "__name__").getD .none) c' ctv)).get? b = some o := fun b o hb e => Heap.get?_push_of_some _ (hx b o hb e)
    have hoc2 := Heap.get?_push_of_some (PySem.W.kdv_obj "<lambda>" q params (.expr body) scope (cloFrom X.env.cells scope.names []) dV doc ((X.mg "__name__").getD .none) c' ctv) hoc
    have I1 := LamX.inv_table (t' := tk) (q := q) (more := #[rawInt pos.line, rawInt pos.col, .ref c']) (h' := h'.push (PySem.W.kdv_obj "<lambda>" q params (.expr body) scope (cloFrom X.env.cells scope.names []) dV doc ((X.mg "__name__").getD .none) c' ctv)) I eP kk (Heap.get?_push_of_some _ htb) hge ⟨oc, fv, t, hoc2, hd, hv⟩
    have hcC : upd (upd vw.H P (.tbl (ps ++ #[rawInt pos.line, rawInt pos.col, .ref c']))) c' (LamX.CodeO c' q) c' = some (LamX.CodeO c' q) := upd_same
    have I2 : Inv X pins σ (upd (upd vw.H P (.tbl (ps ++ #[rawInt pos.line, rawInt pos.col, .ref c']))) c' (.frz oc (LamX.CodeO c' q))) { s with heap := h'.push (PySem.W.kdv_obj "<lambda>" q params (.expr body) scope (cloFrom X.env.cells scope.names []) dV doc ((X.mg "__name__").getD .none) c' ctv), toks := tk } := by
      have at_ : ∀ b, b ≠ c' → upd (upd vw.H P (.tbl (ps ++ #[rawInt pos.line, rawInt pos.col, .ref c']))) c' (.frz oc (LamX.CodeO c' q)) b = upd (upd vw.H P (.tbl (ps ++ #[rawInt pos.line, rawInt pos.col, .ref c']))) c' (LamX.CodeO c' q) b := fun b hb => by rw [upd_ne hb, upd_ne hb]
      have ne : ∀ b u, upd (upd vw.H P (.tbl (ps ++ #[rawInt pos.line, rawInt pos.col, .ref c']))) c' (LamX.CodeO c' q) b = some u → u ≠ LamX.CodeO c' q → b ≠ c' := fun b u e n z => by
        rw [z, hcC] at e
        exact n (Option.some.inj e).symm
      have nt : ∀ xs, HO.tup xs ≠ LamX.CodeO c' q := fun xs z => by unfold LamX.CodeO at z; cases z
      have nfz : ∀ o u, HO.frz o u ≠ LamX.CodeO c' q := fun o u z => by unfold LamX.CodeO at z; cases z
      have ntb : ∀ o, HO.tbl o ≠ LamX.CodeO c' q := fun o z => by unfold LamX.CodeO at z; cases z
      have no : ∀ o, HO.own o ≠ LamX.CodeO c' q := fun o z => by unfold LamX.CodeO at z; cases z
      refine I1.un (t' := tk) {
        keep := fun b o e _ _ _ => e
        slot := fun b o e _ _ _ => ⟨o.slots, e⟩
        free := fun b o e n _ => by rw [at_ b (fun z => by rw [z, hcC] at n; cases n)]; exact n
        there := fun b o e _ => ⟨o, e⟩
        tups := fun b xs e => by rw [at_ b (ne b _ e (nt xs))]; exact e
        frzs := fun b o u e => by rw [at_ b (ne b _ e (nfz o u))]; exact e
        tbls := fun b qs e => ⟨#[], by rw [at_ b (ne b _ e (ntb qs)), e]; simp⟩ } fun b o e => ?_
      by_cases hb : b = c'
      · subst hb
        rw [upd_same] at e
        cases e
        exact ⟨hoc2, I1.hok b _ hcC⟩
      · rw [at_ b hb] at e
        exact (I1.hok b o e).stay (fun c u _ z => z) (fun c z => by rw [at_ c (ne c _ z (no _))]; exact z) (fun c xs z => by rw [at_ c (ne c _ z (nt xs))]; exact z)
    obtain ⟨l, ok1⟩ := tab_grow (oc := oc) (c' := c') (more := #[rawInt pos.line, rawInt pos.col, .ref c']) ok hk hP hu eP nC (by rw [eL]; exact PySem.TriplesOk_snoc _ _ _ _ hT) fun p' cv e => by
      rw [eL] at e
      exact LamX.among_app _ hT e
    have n1 : h'.objs.size ≠ c' := Nat.ne_of_gt hlt
    have n2 : h'.objs.size ≠ P := Nat.ne_of_gt (Nat.lt_of_lt_of_le (Heap.lt_size hP') hsz)
    refine h h'.objs.size c' doc ((X.mg "__name__").getD .none) ctv _ _ I2 l ok1 rfl kk (fun b o e n => by
      show upd (upd vw.H P _) c' _ b = none
      rw [upd_ne (Nat.ne_of_lt (Nat.lt_of_lt_of_le (Heap.lt_size e) hge)), upd_ne (fun z => by rw [z, eP] at n; cases n)]
      exact n) (Heap.get?_push_size _ rfl) ?_ (nofr _ hsz) ⟨oc, upd_same⟩ hsz
    show upd (upd vw.H P _) c' _ h'.objs.size = none
    rw [upd_ne n1, upd_ne n2]
    exact I.hok.fresh hsz
  | some cv =>
    obtain ⟨c', oc, e, hz, hco⟩ := hA pos cv hc
    subst e
    refine PySem.W.kdv_makeTailHit (mg := X.mg) (c := c) (P := P) (ps := ps) (closure_ok hfree) I.ok.glob (I.mod.glob.keeps I.bk) hcode (TB.code.keeps I.bk) hP' hT hc bP fun ctv doc h' tk hx hsz => ?_
    have kk : ∀ b o, s.heap.get? b = some o → (h'.push (PySem.W.kdv_obj "<lambda>" q params (.expr body) scope (cloFrom X.env.cells scope.names []) dV doc ((X.mg "__name__").getD .none) c' ctv)).get? b = some o := fun b o e => Heap.get?_push_of_some _ (hx b o e)
    exact h h'.objs.size c' doc ((X.mg "__name__").getD .none) ctv vw _ (I.kept (t' := tk) kk)   .rfl' ok rfl (fun b o _ e => kk b o e) (fun _ _ _ n => n) (Heap.get?_push_size _ rfl) (I.hok.fresh hsz) (nofr _ hsz) ⟨oc, hco⟩ hsz
end
end Ev
end S_X13
section S_X14
open PySem PySem.Spec PyProof.Rows L2 HotX
namespace Ev
/-- a lambda without parameters, or with one that has a written int as its default -/
inductive LamP (env : Env) (params : Arguments) (body : Expr) (scope : Scope) : Prop
  | none (hdef : defaultsOf params env = ([], [])) (hb : ∀ (q : Str) (cl : List (Str × Addr)) (doc pm cv ctv : Value), bindArgs (PySem.W.kdv_fn "<lambda>" q params (.expr body) scope cl .none doc pm cv ctv) ⟨[], []⟩ = pure [])
  | one (a : Str) (i : Int) (j : Nat) (p : Pos) (hd : params.defaults = [.Constant (.int i) j p]) (hk : params.kw_defaults = []) (hl : scope.names.lookup a = some .local)
      (hb : ∀ (q : Str) (cl : List (Str × Addr)) (T : Addr) (doc pm cv ctv : Value), ∃ kk : Option (Array Value) → Sem (List (Str × Value)), bindArgs (PySem.W.kdv_fn "<lambda>" q params (.expr body) scope cl (.ref T) doc pm cv ctv) ⟨[], []⟩ = seqItems? (.ref T) >>= kk ∧ ∀ u : Value, kk (some #[u]) = pure [(a, u)])
section
variable {X : Cx} {G : Nat → Addr} {pins : List (Addr × Obj)} {σ : L2.St} {s : Shared} {vw : Vw}
/-- a lambda's value -/
theorem lam_eval {k : Nat} {q : Str} {P c : Addr} {params : Arguments} {body : Expr} {scope : Scope} {pos : Pos} {E : Value → Shared → Prop} {Q : Value → Shared → Prop} (L : LamP X.env params body scope) (I : Inv X pins σ vw.H s) (ok : VOk X.w X.K G vw) (hq : X.env.qual ++ "<lambda>" = q)
    (hk : lamNames[k]? = some q) (hP : G (1000 + k) = P + 1) (hu : ∀ k' q', lamNames[k']? = some q' → G (1000 + k') = P + 1 → q' = q) (TB : LamX.TabB X.base X.mg c P) (hcode : X.env.code = .ref c) (hfree : ∀ y ∈ scope.names, y.2 = .free → ∃ c, X.env.cells.lookup y.1 = some c)
    (h : ∀ (f c' : Addr) (dV doc pm ctv : Value) (vw1 : Vw) (s' : Shared) (binds : List (Str × Value)) (D : List (Addr × Obj)), Inv X pins σ vw1.H s' → Le X.K vw vw1 → VOk X.w X.K G vw1 → vw1.st = vw.st →
      s'.heap.get? f = some (PySem.W.kdv_obj "<lambda>" q params (.expr body) scope (cloFrom X.env.cells scope.names []) dV doc pm c' ctv) → vw1.H f = none → f ∉ frs X.stack → (∃ oc, vw1.H c' = some (.frz oc (LamX.CodeO c' q))) →
      (∀ y ∈ binds, scope.names.lookup y.1 = some .local) → (∀ p ∈ D, s'.heap.get? p.1 = some p.2 ∧ vw1.H p.1 = none ∧ p.1 ∉ frs X.stack) →
      (∀ s2 : Shared, (∀ p ∈ D, s2.heap.get? p.1 = some p.2) → BindsTo s2 (PySem.W.kdv_fn "<lambda>" q params (.expr body) scope (cloFrom X.env.cells scope.names []) dV doc pm (.ref c') ctv) ⟨[], []⟩ binds) → Q (.ref f) s') :
    wpAny (model X.prog X.w) X.A (eval (.Lambda params body scope pos) X.env) Q E s := by
  cases L with
  | none hdef hb =>
    refine PySem.W.kla_eval hdef ?_
    rw [hq, makeFunction_eq]
    simp only [List.zip_nil_right, List.filterMap_nil, List.isEmpty_nil, if_true, pure_bind]
    refine lam_tail I ok hk hP hu TB hcode hfree fun f c' doc pm ctv vw1 s' I1 l ok1 es kp kn hf hn hfr hc _ => ?_
    exact h f c' .none doc pm ctv vw1 s' [] [] I1 l ok1 es hf hn hfr hc (fun _ z => nomatch z) (fun _ z => nomatch z) fun s2 _ => BindsTo.of_eq (hb q _ doc pm _ ctv)
  | one a i j p hd hk0 hl hb =>
    refine PySem.W.kdv_lam (by rw [hd] <;> rfl) hk0 ?_
    rw [hd]
    refine PySem.W.kdv_all1 (wpAny_Constant_int (PySem.W.kdv_all0 ?_))
    rw [hq, makeFunction_eq]
    simp only [List.zip_nil_right, List.filterMap_nil, List.isEmpty_nil, List.isEmpty_cons, if_true, pure_bind, Bool.false_eq_true, if_false]
    refine wpAny_bind (wpAny_newTextTuple ?_)
    have I0 : Inv X pins σ vw.H { s with heap := s.heap.push (PySem.W.kdv_tup [.int i s.toks]), toks := s.toks + 1 } := I.kept (t' := s.toks + 1) fun b o e => Heap.get?_push_of_some _ e
    have nT : vw.H s.heap.objs.size = none := I.hok.fresh (Nat.le_refl _)
    have frT : s.heap.objs.size ∉ frs X.stack := fun z => by
      rcases List.mem_cons.mp (I.stkSub _ z) with e | e
      · have h1 := I.lt
        rw [← e] at h1
        exact Nat.lt_irrefl _ h1
      · exact I.nofs (Nat.le_refl _) e
    obtain ⟨_, _, ps, eP, _, _⟩ := ok.tab k q P hk hP
    have nP : s.heap.objs.size ≠ P := fun z => by
      rw [← z, nT] at eP
      cases eP
    refine lam_tail I0 ok hk hP hu TB hcode hfree fun f c' doc pm ctv vw1 s' I1 l ok1 es kp kn hf hn hfr hc _ => ?_
    have hT : s'.heap.get? s.heap.objs.size = some (PySem.W.kdv_tup [.int i s.toks]) := kp _ _ nP (Heap.get?_push_size _ rfl)
    have nT1 : vw1.H s.heap.objs.size = none := kn _ _ (Heap.get?_push_size _ rfl) nT
    obtain ⟨kk, e1, e2⟩ := hb q (cloFrom X.env.cells scope.names []) s.heap.objs.size doc pm (.ref c') ctv
    refine h f c' (.ref s.heap.objs.size) doc pm ctv vw1 s' [(a, .int i s.toks)] [(s.heap.objs.size, PySem.W.kdv_tup [.int i s.toks])] I1 l ok1 es hf hn hfr hc (fun y hy => by rw [List.mem_singleton.mp hy]; exact hl) (fun p hp => by rw [List.mem_singleton.mp hp]; exact ⟨hT, nT1, frT⟩) fun s2 hs2 => ?_
    exact BindsTo.of_defaults rfl (hs2 _ (List.mem_singleton.mpr rfl)) rfl e1 (e2 _)
end
end Ev
end S_X14
section S_X15
open PySem PySem.Spec PyProof.Rows L2 HotX
namespace Ev
/-- a lambda's names: captured ones, globals, and its own that the maker does not have -/
structure LamQ (sc scope : Scope) (N : List Str) : Prop where
  kind : scope.kind = .function
  co : scope.isCoroutine = false
  gen : scope.isGenerator = false
  nocell : ∀ y ∈ scope.names, y.2 ≠ .cell
  own : ∀ y ∈ scope.names, y.2 = .local → y.1 ∉ N
  free : ∀ y ∈ scope.names, y.2 = .free → sc.names.lookup y.1 = some .cell ∨ sc.names.lookup y.1 = some .free
def lamQB (sc scope : Scope) (N : List Str) : Bool :=
  decide (scope.kind = .function) && (!scope.isCoroutine && (!scope.isGenerator && scope.names.all fun y => !decide (y.2 = .cell) && ((!decide (y.2 = .local) || !decide (y.1 ∈ N)) && (!decide (y.2 = .free) || (decide (sc.names.lookup y.1 = some .cell) || decide (sc.names.lookup y.1 = some .free))))))
theorem lamQ_by {sc scope : Scope} {N : List Str} (h : lamQB sc scope N = true) : LamQ sc scope N := by
  unfold lamQB at h
  simp only [Bool.and_eq_true, Bool.or_eq_true, Bool.not_eq_true', decide_eq_true_eq, decide_eq_false_iff_not, List.all_eq_true] at h
  obtain ⟨k, co, gen, al⟩ := h
  exact ⟨k, co, gen, fun y hy => (al y hy).1, fun y hy e => (al y hy).2.1.elim (fun z => absurd e z) id, fun y hy e => (al y hy).2.2.elim (fun z => absurd e z) id⟩
section
variable {X : Cx} {pins : List (Addr × Obj)} {σ : L2.St} {H HZ : Hp} {s s1 : Shared}
theorem LamQ.cells {scope : Scope} (L : LamQ X.env.scope scope X.N) (ok : X.Ok) : ∀ y ∈ scope.names, y.2 = .free → ∃ c, X.env.cells.lookup y.1 = some c := fun y hy e => ok.has _ (L.free y hy e)
theorem lam_enter {A : Around} {outer : List Env} {E : XK} {scope : Scope} {f c' : Addr} {h₁ : Heap} {tk : Nat} {m : Str → Option Value} (I : Inv X pins σ H s) (L : LamQ X.env.scope scope X.N) (e0 : Env0 X.prog X.w X.K X.mg X.base A outer s1 HZ) (hd : A.handled = none)
    (un : Un (frs X.stack) [] H HZ s.heap s1.heap) (hns : h₁.Ns s1.heap.objs.size m) (kp : ∀ b o, s1.heap.get? b = some o → h₁.get? b = some o) :
    Inv (LamX.lamCx X A outer s1 HZ E scope f c') [] σ HZ { s1 with heap := h₁, toks := tk } := by
  have hcl := L.cells I.ok
  -- a captured name's cell is the maker's
  have cap : ∀ {n : Str} {c : Addr}, (cloFrom X.env.cells scope.names []).lookup n = some c → X.env.cells.lookup n = some c := fun {n c} q => by
    rcases cloFrom_mem (PySem.mem_of_lookup q) with z | ⟨z1, z2⟩
    · cases z
    · obtain ⟨c0, h0⟩ := hcl _ z1 rfl
      rw [h0, z2, show X.env.cells.lookup n = some c0 from h0]
      rfl
  have has : ∀ {n : Str}, scope.names.lookup n = some .free → ∃ c, (cloFrom X.env.cells scope.names []).lookup n = some c := fun {n} q =>
    mem_lookup (cloFrom_has (cells := X.env.cells) (acc := []) (show (n, NameKind.free) ∈ scope.names from PySem.mem_of_lookup q))
  have cellAt : ∀ {c : Addr} {v : Option Value}, H c = none → s.heap.IsCell c v → h₁.IsCell c v := fun {c v} nn ⟨o, ho, hv⟩ => by
    obtain ⟨sl, z⟩ := un.any ho nn (by simp)
    exact ⟨_, kp _ _ z, hv⟩
  have noX : ∀ b : Addr, b ∉ (LamX.lamCx X A outer s1 HZ E scope f c').ex := fun b z => absurd (show b ∈ ([] : List Addr) from z) (by simp)
  have hok : (LamX.lamCx X A outer s1 HZ E scope f c').Ok := {
    mod := e0.mod
    kind := L.kind
    glob := rfl
    blt := rfl
    above := Nat.le_refl _
    inj := fun n n' c q q' => I.ok.inj n n' c (cap q) (cap q')
    has := fun n hn => by
      rcases (show scope.names.lookup n = some .cell ∨ scope.names.lookup n = some .free from hn) with z | z
      · exact absurd rfl (L.nocell _ (PySem.mem_of_lookup z))
      · exact has z
    cab := fun n c z => by cases (show false = true from z)
    hd := fun _ => hd
    frames := Around.frames_deeper e0.frames
    stk := .inr ⟨rfl, rfl⟩
    exf := fun b z => absurd z (noX b)
    bs := e0.bs
    bsz := e0.bsz
    noex := fun b _ _ => noX b
    exfs := fun b z => absurd z (noX b)
    funs := e0.funs
    frf := e0.frf }
  refine ⟨hok, rfl, e0.bare, Un.kept kp, ⟨m, hns, fun i n v q1 q2 q3 => ?_⟩, fun n c q => ?_, e0.hok.fresh (Nat.le_refl _), fun n c q => ?_, fun p hp => absurd (show p ∈ ([] : List (Addr × Obj)) ++ [] from hp) (by simp), e0.hok.kept kp, I.len⟩
  · rcases (show Vis scope n from q3) with z | z | z
    · exact absurd (List.mem_of_getElem? q1) (L.own _ (PySem.mem_of_lookup z) rfl)
    · exact absurd rfl (L.nocell _ (PySem.mem_of_lookup z))
    · obtain ⟨m0, hn0, hl0⟩ := I.loc
      have fr := L.free _ (PySem.mem_of_lookup z) rfl
      obtain ⟨u, ru, lk⟩ := hl0 i n v q1 q2 (fr.elim (fun y => .inr (.inl y)) fun y => .inr (.inr y))
      obtain ⟨c2, h2⟩ := has z
      refine ⟨u, ru, .inr ⟨.inr z, c2, h2, ?_⟩⟩
      rcases lk with ⟨y, _⟩ | ⟨_, c3, y1, y2⟩
      · have y : X.env.scope.names.lookup n = some .local := y
        rcases fr with w | w <;> rw [show X.env.scope.names.lookup n = _ from w] at y <;> cases y
      · have e3 : c3 = c2 := Option.some.inj (y1.symm.trans (cap h2))
        subst e3
        exact cellAt (I.freeC n c3 y1) y2
  · obtain ⟨v, z⟩ := I.cell n c (cap q)
    exact ⟨v, cellAt (I.freeC n c (cap q)) z⟩
  · obtain ⟨v, o, ho, _⟩ := I.cell n c (cap q)
    exact un.free c o ho (I.freeC n c (cap q)) (by simp)
/-- the lambda called: f made at the state s, called at s1 by the def whose frames are outer -/
theorem lam_call {A : Around} {outer : List Env} {E : XK} {q : Str} {params : Arguments} {body : Expr} {scope : Scope} {f c' : Addr} {dV doc pm ctv : Value} {binds : List (Str × Value)} {k : Nat} {tb : TE} {Q : VK} (I : Inv X pins σ H s) (L : LamQ X.env.scope scope X.N) (hq : X.env.qual ++ "<lambda>" = q)
    (hf : s1.heap.get? f = some (PySem.W.kdv_obj "<lambda>" q params (.expr body) scope (cloFrom X.env.cells scope.names []) dV doc pm c' ctv)) (hc : ∃ oc, HZ c' = some (.frz oc (LamX.CodeO c' q))) (hloc : ∀ y ∈ binds, scope.names.lookup y.1 = some .local)
    (hb : BindsTo s1 (PySem.W.kdv_fn "<lambda>" q params (.expr body) scope (cloFrom X.env.cells scope.names []) dV doc pm (.ref c') ctv) ⟨[], []⟩ binds)
    (e0 : Env0 X.prog X.w X.K X.mg X.base A outer s1 HZ) (hr : Room (k + 1) A) (un : Un (frs X.stack) [] H HZ s.heap s1.heap)
    (hbody : Room k (A.deeper (LamX.lamEnv X scope s1.heap.objs.size f c')) → PE (LamX.lamCx X A outer s1 HZ E scope f c') body tb) (ht : tb σ HZ Q) :
    codeAny (model X.prog X.w) A (.call (.ref f) ⟨[], []⟩) (CR (L2.CX X.prog X.w) outer X.prog X.w HZ s1 Q E) s1 := by
  obtain ⟨oc, hco⟩ := hc
  have hco2 : ObjOk X.prog X.w HZ s1.heap c' (.frz oc (LamX.CodeO c' q)) := e0.hok c' _ hco
  obtain ⟨hget, hcode⟩ := hco2
  obtain ⟨⟨o2, fv, t, ho2, hd2, hv2⟩, _, _⟩ := hcode
  have nol : s1.heap.NoLimit := e0.mod.nolimit.keeps fun b o z => (e0.bs b o z).1
  refine PySem.W.kla_callFunE hr.depth hf rfl L.co L.gen rfl ⟨c', o2, fv, t, rfl, ho2, hd2, hv2⟩ (hb _ _ _ _ ?_)
  refine wpAny_newFunctionEnv L.nocell hloc (fun h₁ hns hsb => ⟨nol.fresh _ hsb, ?_⟩) L.kind
  subst hq
  show codeAny _ _ (.expr body (LamX.lamEnv X scope s1.heap.objs.size f c')) _ _
  have kp : ∀ b o, s1.heap.get? b = some o → h₁.get? b = some o := fun b o z => hsb.extBut b o (Nat.ne_of_lt (Heap.lt_size z)) (Heap.get?_push_of_some _ z)
  have J : Inv (LamX.lamCx X A outer s1 HZ E scope f c') [] σ HZ { s1 with heap := h₁, toks := s1.toks + binds.length } := lam_enter I L e0 hr.hd un hns kp
  refine PySem.W.kla_codeExpr (wpAny_mono ((hbody (hr.deeper _)).run [] _ _ HZ Q J ht) (fun v s' hv => ?_) fun e s' he => he)
  obtain ⟨w', H', J', rv, z⟩ := hv
  exact ⟨w', H', J'.os, J'.bare, J'.base, J'.hok, rv, z⟩
end
end Ev
end S_X15
section S_X16
open PySem PySem.Spec PyProof.Rows L2 HotX
namespace Ev
/-- what _law_told makes of what is called; inf: the classes' names and fields -/
def rTold (inf : Nat → Option (Str × List Str)) (r : RX) : RX := fun env st => match r env st with
  | .ok (.p z) st1 => .ok (.p (.tup [.str "told", z])) st1
  | .ex c [.ins c' fs us] st1 => (match inf c with
    | some (nm, gs) => if c' = c ∧ fs = gs then .ok (.p (.tup (.str nm :: us))) st1 else .no
    | none => .no)
  | _ => .no
/-- the law's own context: its table of code objects -/
structure LawC (X : Cx) (G : Nat → Addr) (k : Nat) (q : Str) (P c : Addr) : Prop where
  hq : X.env.qual ++ "<lambda>" = q
  hk : lamNames[k]? = some q
  hP : G (1000 + k) = P + 1
  hu : ∀ k' q', lamNames[k']? = some q' → G (1000 + k') = P + 1 → q' = q
  TB : LamX.TabB X.base X.mg c P
  code : X.env.code = .ref c
theorem pe_calls {X : Cx} {G : Nat → Addr} {pins : List (Addr × Obj)} {σ : L2.St} {s' : Shared} {vw1 : Vw} {q : Str} {params : Arguments} {body : Expr} {scope : Scope} {f c' g : Addr} {dV doc pm ctv cdv : Value} {binds : List (Str × Value)} {D : List (Addr × Obj)} {kb : Nat} {r : RX} {NT : List Str} {tn : Str} {scT : Scope} {p1 p2 : Pos} {pn : List (Addr × Obj)} {xe : Value → Shared → Prop} {W : WX} {EE : XK} {E0 : XK}
    (I1 : Inv X pins σ vw1.H s') (LQ : LamQ X.env.scope scope X.N) (hq : X.env.qual ++ "<lambda>" = q)
    (hf : s'.heap.get? f = some (PySem.W.kdv_obj "<lambda>" q params (.expr body) scope (cloFrom X.env.cells scope.names []) dV doc pm c' ctv)) (hfn : vw1.H f = none) (hfr : f ∉ frs X.stack) (hc : ∃ oc, vw1.H c' = some (.frz oc (LamX.CodeO c' q))) (hloc : ∀ y ∈ binds, scope.names.lookup y.1 = some .local)
    (hD : ∀ p ∈ D, s'.heap.get? p.1 = some p.2 ∧ vw1.H p.1 = none ∧ p.1 ∉ frs X.stack) (hb : ∀ s2 : Shared, (∀ p ∈ D, s2.heap.get? p.1 = some p.2) → BindsTo s2 (PySem.W.kdv_fn "<lambda>" q params (.expr body) scope (cloFrom X.env.cells scope.names []) dV doc pm (.ref c') ctv) ⟨[], []⟩ binds)
    (hr : Room (kb + 1) (X.A.deeper (envOfC tn scT s'.heap.objs.size g cdv)))
    (hbody : ∀ (A : Around) (outer : List Env) (s : Shared) (H : Hp) (E : XK) (f c' : Addr), Room kb (A.deeper (LamX.lamEnv X scope s.heap.objs.size f c')) → Takes (LamX.lamCx X A outer s H E scope f c') (wxE X.w X.K G (bodyE X.w X.K G E)) → PX (LamX.lamCx X A outer s H E scope f c') G (bodyE X.w X.K G E) body r)
    (tk : Takes ((cxOf CXf X.prog X.w X.K X.mg X.base NT tn scT g cdv X.A X.stack s' vw1.H E0).tr pn xe) W) (hN : NT[0]? = some ("call" : Str)) (hv : Vis scT ("call" : Str)) :
    PE ((cxOf CXf X.prog X.w X.K X.mg X.base NT tn scT g cdv X.A X.stack s' vw1.H E0).tr pn xe) (.Call (.Name "call" p1) [] [] p2)
      (fun σZ HZ Q => σZ[0]? = some (some (.ref f)) ∧ (∀ cls d H', EE cls d H' → W cls d σZ H') ∧ tE X.w X.K G (bodyE X.w X.K G EE) r σ HZ Q) := by
  refine ⟨fun pinsZ sZ σZ HZ Q IZ h => ?_⟩
  obtain ⟨hs, hW, ht⟩ := h
  refine wpAny_Call_Name_kw (thn ((pe_var (X := (cxOf CXf X.prog X.w X.K X.mg X.base NT tn scT g cdv X.A X.stack s' vw1.H E0).tr pn xe) (pos := p1) (i := 0) hN hv (by decide) (by decide)).run pinsZ sZ σZ HZ (fun v H1 => v = .ref f ∧ H1 = HZ) IZ ⟨.ref f, hs, rfl, rfl⟩) fun u s1 ⟨v, H1, J, rv, ev, eH⟩ => ?_)
  subst ev eH
  obtain rfl : u = Value.ref f := rv
  have kp : ∀ b o, s'.heap.get? b = some o → vw1.H b = none → b ∉ frs X.stack → s1.heap.get? b = some o := fun b o z n nf => J.base.keep b o z n nf (fun y => nomatch (show b ∈ ([] : List Addr) from y))
  have hf1 := kp f _ hf hfn hfr
  obtain ⟨oc, hco⟩ := hc
  refine PySem.W.callWith_F0 ⟨_, _, _, _, hf1⟩ ?_
  have rc : codeAny (model X.prog X.w) (X.A.deeper (envOfC tn scT s'.heap.objs.size g cdv)) (.call (.ref f) ⟨[], []⟩) (CR (L2.CX X.prog X.w) (envOfC tn scT s'.heap.objs.size g cdv :: X.stack) X.prog X.w H1 s1 Q EE) s1 := by
    refine lam_call (X := X) (A := X.A.deeper (envOfC tn scT s'.heap.objs.size g cdv)) (outer := envOfC tn scT s'.heap.objs.size g cdv :: X.stack) (E := EE) (k := kb) (tb := tE X.w X.K G (bodyE X.w X.K G EE) r) (Q := Q) I1 LQ hq hf1 ⟨oc, J.base.frzs c' oc _ hco⟩ hloc (hb s1 fun p hp => kp _ _ (hD p hp).1 (hD p hp).2.1 (hD p hp).2.2) J.env0 hr J.base (fun hr2 => ?_) ht
    refine hbody _ _ _ _ _ _ _ hr2 (takes_imp (takes_of rfl rfl rfl rfl) ?_)
    rintro cls d σ' H' ⟨vw', env, c, us, rfl, ok', re', xr, hh⟩
    exact hh cls d xr
  refine wpAny_call (codeAny_mono rc fun r1 s2 hq2 => ?_)
  cases r1 with
  | error e => exact tk e s2 (XE.of_call J (fun cls d H' h => hW cls d H' h) hq2)
  | ok fl =>
    cases fl with
    | ret u => exact J.after hq2
    | next => exact False.elim hq2
    | brk => exact False.elim hq2
    | cont => exact False.elim hq2
end Ev
end S_X16
section S_X17
open PySem PySem.Spec PyProof.Rows L2 HotX
namespace Ev
/-- try: return ("told", call()) / except BenchError as e: return rn(e) -/
def toldB (rn : Str) (j t2 : Nat) (q1 q2 q3 q4 q5 q6 q7 q8 q9 q10 q11 q12 : Pos) : List Stmt :=
  [.Try [.Return (some (.Tuple [.Constant (.str "told") j q1, .Call (.Name "call" q2) [] [] q3] t2 q4)) q5] [.ExceptHandler (some (.Name "BenchError" q6)) (some "e") [.Return (some (.Call (.Name rn q7) [.Name "e" q8] [] q9)) q10] q11] [] [] q12]
/-- how _law_refusal answers an exception of the class c -/
def RefOk (P : Program) (w : World) (K : PySem.W.Frag) (mg : Str → Option Value) (base : Heap) (G : Nat → Addr) (k c : Nat) (nm : Str) (fs : List Str) (rn : Str) (f : Addr) (body : List Stmt) (scope : Scope) (N : List Str) : Prop :=
  ∀ (a : Addr) (oe : Obj) (cdv : Value) (A : Around) (outer : List Env) (s : Shared) (H : Hp) (E : XK) (dd : Addr) (od : Obj) (vs : List V), L2H.RoomH k (A.deeper (envOfC rn scope s.heap.objs.size f cdv)) → vs.length = fs.length →
    ExAt (L2H.cxH CXf P w K mg base N rn scope f cdv A outer s H E (a, oe)) a (G c) dd oe od → (∀ j g, fs[j]? = some g → ExF w K (Gx G a vs) (G c) dd od g ((fvs vs).getD j .non)) →
    ∃ rs st', PXSs (L2H.cxH CXf P w K mg base N rn scope f cdv A outer s H E (a, oe)) (Gx G a vs) noE body rs ∧ rs (envOf N.length [.p (.glb 2000)]) [] = .rt (.p (.tup (.str nm :: fvs vs))) st'
/-- the classes that are told -/
structure InfOk (P : Program) (w : World) (K : PySem.W.Frag) (mg : Str → Option Value) (base : Heap) (G : Nat → Addr) (k c : Nat) (nm : Str) (fs : List Str) (CS : Addr) (rn : Str) (f : Addr) (body : List Stmt) (scope : Scope) (N : List Str) : Prop where
  len : fs.length ≤ 2
  nd : fs.Nodup
  no : ∀ g ∈ fs, PySem.W.findIn K (.ref (G c)) g = some none
  ex : PySem.W.exmOne K (.ref (G c)) (.ref CS) = some true
  ok : RefOk P w K mg base G k c nm fs rn f body scope N
theorem px_told {X : Cx} {G : Nat → Addr} {E : WE} {k kb kr : Nat} {q tn rn : Str} {P c g fR CS : Addr} {params pT pR : Arguments} {body : Expr} {scope scT scR : Scope} {lpos p pos : Pos} {fdT fdR : FuncData} {NT NR : List Str} {bT bR : List Stmt} {j t2 : Nat} {q1 q2 q3 q4 q5 q6 q7 q8 q9 q10 q11 q12 : Pos} {r : RX} {inf : Nat → Option (Str × List Str)}
    (C : LawC X G k q P c) (LQ : LamQ X.env.scope scope X.N) (LP : LamP X.env params body scope) (hr : Room (kb + 2) X.A) (hr2 : kr + 1 ≤ kb)
    (FT : FunD X.K tn tn pT bT scT [] [] g fdT) (eT : bT = toldB rn j t2 q1 q2 q3 q4 q5 q6 q7 q8 q9 q10 q11 q12) (bdT : Binds X.K fdT ["call"] []) (ST : FnScope NT ["call"] scT) (hN0 : NT[0]? = some ("call" : Str)) (hN1 : NT[1]? = some ("e" : Str)) (hNl : NT.length = 2)
    (hv0 : Vis scT ("call" : Str)) (hv1 : scT.names.lookup ("e" : Str) = some .local) (hgB : scT.names.lookup ("BenchError" : Str) = some .globalImplicit) (hgR : scT.names.lookup rn = some .globalImplicit) (hmB : X.mg "BenchError" = some (.ref CS))
    (FR : FunD X.K rn rn pR bR scR [] [] fR fdR) (bdR : Binds X.K fdR ["e"] []) (SR : FnScope NR ["e"] scR) (hmR : X.mg rn = some (.ref fR)) (hdR : (rn == ("__debug__" : Str)) = false)
    (hinf : ∀ c nm fs, inf c = some (nm, fs) → InfOk X.prog X.w X.K X.mg X.base G kr c nm fs CS rn fR bR scR NR)
    (hg : Gl X tn) (hm : X.mg tn = some (.ref g))
    (hbody : ∀ (A : Around) (outer : List Env) (s : Shared) (H : Hp) (E : XK) (f c' : Addr), Room kb (A.deeper (LamX.lamEnv X scope s.heap.objs.size f c')) → Takes (LamX.lamCx X A outer s H E scope f c') (wxE X.w X.K G (bodyE X.w X.K G E)) → PX (LamX.lamCx X A outer s H E scope f c') G (bodyE X.w X.K G E) body r)
    (hdb : (tn == ("__debug__" : Str)) = false := by decide) :
    PX X G E (.Call (.Name tn p) [.Lambda params body scope lpos] [] pos) (rTold inf r) := by
  refine ⟨fun pins s σ H Q I ⟨vw, env, eH, ok, re, hq⟩ => ?_⟩
  subst eH
  obtain ⟨oc, od, dV, kV, doc, pm, an, cdv, ct, osl, efd, lk, hcd, _, _⟩ := FT.ex
  refine wpAny_Call_Name_kw (ld_glob I hg hm ?_ hdb)
  refine PySem.W.callWith_K (h₀ := X.base) I.ok.mod.kin FT.kp ?_ (by rfl) (by rfl)
  show wpAny _ _ (spliced ((false, eval (.Lambda params body scope lpos) X.env) :: backTo pos (starEach [] X.env))) _ _ s
  refine PySem.Calls.spliced_cons (lam_eval LP I ok C.hq C.hk C.hP C.hu C.TB C.code (LQ.cells I.ok) fun f c' dVf docf pmf ctvf vw1 s' binds D I1 l1 ok1 es1 hf hfn hfr hc hloc hD hb => ?_)
  refine PySem.Calls.spliced_nil ⟨I1.kIn, ?_⟩
  show wpAny _ _ (call (.ref g) [.ref f]) _ _ _
  have hbT := bdT s' [.ref f] I1.kIn rfl
  rw [List.append_nil, efd] at hbT
  have rc : codeAny (model X.prog X.w) X.A (.call (.ref g) ⟨[.ref f], []⟩) (CR CXf X.stack X.prog X.w vw1.H s' Q (fun _ _ _ => False)) s' := by
    refine LamX.run_ofS (k := kb + 1) (N := NT) (ps := ["call"]) (us := [.ref f]) (vs := [.ref f]) (by rw [← efd]; exact lk) hcd ST hr I1.env0 hbT (.cons rfl .nil) rfl fun hr' => ?_
    rw [eT]
    have W0 : ∀ (σZ : L2.St), True := fun _ => trivial
    refine ⟨_, pss_one (ps_try_as (X := cxOf CXf X.prog X.w X.K X.mg X.base NT tn scT g cdv X.A X.stack s' vw1.H (fun _ _ _ => False)) (c := .ref CS) (i := 1) (Wout := fun _ _ _ _ => False)
      (tb := fun W D σZ HZ => ∃ EE : XK, σZ[0]? = some (some (.ref f)) ∧ (∀ cls d H', EE cls d H' → W cls d σZ H') ∧ tE X.w X.K G (bodyE X.w X.K G EE) r σ HZ fun v H2 => ∀ t, H2 t = none → D.rt (.ref t) (upd H2 t (.tup [.str "told", v])))
      (ts := fun a cls d D σZ HZ => ∃ cc nm fs, inf cc = some (nm, fs) ∧ tRef X.w X.K G cc nm fs 1 a cls d σZ HZ D.rt)
      rfl rfl ST.nd hN1 hv1 ⟨hgB, by decide, .inl hmB⟩ LamX.takes0 (fun W pn xe tk _ => ?_) (fun a oe cls d pn hz hfl => ?_)), ?_⟩
    · refine ⟨fun pinsZ sZ σZ HZ DZ IZ ⟨EE, h0, hW, ht⟩ => ?_⟩
      have pc := pe_calls (p1 := q2) (p2 := q3) (EE := EE) I1 LQ C.hq hf hfn hfr hc hloc hD hb hr' hbody tk hN0 hv0
      have hp := pss_one (ps_ret (pos := q5) (pe_tup (x1 := t2) (pos := q4) (pa_cons (pe_str (x := "told") (j := j) (pos := q1)) (pa_cons pc pa_nil))))
      refine hp.run pinsZ sZ σZ HZ DZ IZ ⟨h0, hW, ?_⟩
      obtain ⟨vwA, envA, a1, a2, a3, a4⟩ := ht
      exact ⟨vwA, envA, a1, a2, a3, a4.imp fun vw' x _ _ hh v rv => ⟨by rw [sizeLine_eq]; exact Nat.le_of_ble_eq_true rfl, fun t hn => hh v rv t hn⟩⟩
    · refine ⟨fun pinsZ sZ σZ HZ DZ IZ ⟨cc, nm, fs, hi, h⟩ => ?_⟩
      have O := hinf cc nm fs hi
      have hrH : L2H.RoomH (kr + 1) ((cxOf CXf X.prog X.w X.K X.mg X.base NT tn scT g cdv X.A X.stack s' vw1.H (fun _ _ _ => False)).suite a ((a, oe) :: pn)).A := by
        have hm2 := L2H.roomH_of (hr'.mono (show kr + 1 ≤ kb + 1 by omega))
        exact ⟨(hm2.mono (Nat.le_refl _)).dp, hm2.un⟩
      exact (pss_one (ps_ret (pos := q10) (pe_refuse (X := cxOf CXf X.prog X.w X.K X.mg X.base NT tn scT g cdv X.A X.stack s' vw1.H (fun _ _ _ => False)) (p1 := q7) (p2 := q8) (pos := q9) (G := G) (c := cc) (nm := nm) (fs := fs) (i := 1) (k := kr) (cls := cls) (d := d) (pn := pn) FR SR bdR hrH hgR hmR hN1 (.inl hv1) hz hfl O.len O.nd O.no
        (fun cdv A outer s H E dd od vs a1 a2 a3 a4 => O.ok a oe cdv A outer s H E dd od vs a1 a2 a3 a4) hdR))).run pinsZ sZ σZ HZ DZ IZ h
    · refine ⟨fun cls d H' => ∃ vw' cc nm fs us, vw'.H = H' ∧ VOk X.w X.K G vw' ∧ inf cc = some (nm, fs) ∧ XRep X.w X.K G vw' cc [.ins cc fs us] cls d ∧ ∀ vw2 v, Le X.K vw' vw2 → VOk X.w X.K G vw2 → vw2.st = vw'.st → RelP X.w X.K G vw2.H vw2.Z (.tup (.str nm :: us)) v → Q v vw2.H, ?_, ?_, ?_⟩
      · have hz0 : NT.length ≠ 0 := by omega
        rfl
      · rintro cls d H' ⟨vw', cc, nm, fs, us, rfl, ok', hi, ⟨x1, fs2, us2, dd, vs, x2, x3, x4, x5, x6, x7⟩, hQ⟩
        cases x2
        refine ⟨true, by rw [x1]; exact (hinf cc nm fs hi).ex, fun _ a ha => ⟨cc, nm, fs, hi, ?_, vw', us, dd, vs, rfl, ok', x1, x3, x4, x5, x6, x7, hQ⟩, fun z => by cases z⟩
        rw [List.getElem?_set_self]
        unfold L2.start
        simp
        omega
      · refine ⟨vw1, env, rfl, ok1, re.mono l1, ?_⟩
        rw [es1]
        unfold rTold at hq
        generalize r env vw.st = r0 at hq
        cases r0 with
        | no => exact hq.elim
        | ok x st1 =>
          cases x with
          | ref n => exact hq.elim
          | p z =>
            intro vw' l' ok' es' v rv t hn
            obtain ⟨vw2, e2, l2, ok2, es2, rt⟩ := mkTup (xs := [.str "told", z]) (vs := [.str "told", v]) ok' hn (by rw [sizeLine_eq]; exact Nat.le_of_ble_eq_true rfl) (by
              rw [RelPs]
              refine ⟨_, _, rfl, by rw [RelP], ?_⟩
              rw [RelPs]
              exact ⟨_, _, rfl, rv, by rw [RelPs]⟩)
            rw [← e2]
            exact hq vw2 ((l1.trans l').trans l2) ok2 (es2.trans es') (.ref t) rt
        | ex cc us st1 =>
          intro vw' l' ok' es'
          split at hq
          · rename_i h0
            cases h0
          · rename_i cc2 c3 gs ws st2 h0
            cases h0
            split at hq
            · rename_i nm fs hi
              split at hq
              · rename_i hcc
                obtain ⟨rfl, rfl⟩ := hcc
                intro cls d xr
                exact ⟨vw', c3, nm, gs, ws, rfl, ok', hi, xr, fun vw2 v l2 ok2 es2 rt => hq vw2 ((l1.trans l').trans l2) ok2 (es2.trans es') v rt⟩
              · exact hq.elim
            · exact hq.elim
          · exact hq.elim
  refine wpAny_call (codeAny_mono rc fun r1 s2 hq2 => ?_)
  cases r1 with
  | error e => exact (show False from hq2).elim
  | ok fl =>
    cases fl with
    | ret u => exact I1.after hq2
    | next => exact False.elim hq2
    | brk => exact False.elim hq2
    | cont => exact False.elim hq2
end Ev
end S_X17
section S_X18
open PySem PySem.Spec PyProof.Rows L2
namespace Ev
/-- a def's promise where no repr is under way -/
structure FnG (P : Program) (w : World) (K : PySem.W.Frag) (mg : Str → Option Value) (base : Heap) (CX : CXT) (k : Nat) (f : Addr) (fd : FuncData) (ps : List Str) (sp : Sp) : Prop where
  len : ∀ vs H Q E, sp vs H Q E → vs.length = ps.length
  go : ∀ (A : Around) (outer : List Env) (s : Shared) (H : Hp) (args : Args) (us : List Value) (vs : List V) (Q : VK) (E : XK), A.guards = some [] → Room k A → Env0 P w K mg base A outer s H → BindsTo s fd args (ps.zip us) → Vals vs us → sp vs H Q E →
    codeAny (model P w) A (.call (.ref f) args) (CR CX outer P w H s Q E) s
section
variable {P : Program} {w : World} {K : PySem.W.Frag} {mg : Str → Option Value} {base : Heap} {G : Nat → Addr}
theorem FnG.of {CX : CXT} {k : Nat} {f : Addr} {fd : FuncData} {ps : List Str} {sp : Sp} (F : FnOk P w K mg base CX k f fd ps sp) : FnG P w K mg base CX k f fd ps sp :=
  ⟨F.len, fun A outer s H args us vs Q E _ => F.run A outer s H args us vs Q E⟩
theorem FnG.imp {CX : CXT} {k : Nat} {f : Addr} {fd : FuncData} {ps : List Str} {sp sp' : Sp} (F : FnG P w K mg base CX k f fd ps sp) (h : ∀ vs H Q E, sp' vs H Q E → sp vs H Q E) : FnG P w K mg base CX k f fd ps sp' :=
  ⟨fun vs H Q E z => F.len vs H Q E (h _ _ _ _ z), fun A outer s H args us vs Q E hg hr he hb hv hs => F.go A outer s H args us vs Q E hg hr he hb hv (h _ _ _ _ hs)⟩
theorem fnG_pure {CX : CXT} {j n : Nat} {f : Addr} {fd : FuncData} {ps : List Str} {F : MF} (h : FnG P w K mg base CX j f fd ps (spM w K G n F)) : FnG P w K mg base CX j f fd ps (spM w K G n (liftP (pureOf F))) := h.imp fun _ _ _ _ z => sp_pure z
theorem fnG_gc {CX : CXT} {j n : Nat} {f : Addr} {fd : FuncData} {ps : List Str} {F : MF} (h : FnG P w K mg base CX j f fd ps (spM w K G n F)) : FnG P w K mg base CX j f fd ps (spM w K G n (gcOf F)) := h.imp fun _ _ _ _ z => sp_gc z
theorem guards_deeper {A : Around} {e : Env} (h : A.guards = some []) : (A.deeper e).guards = some [] := by
  first | exact h | simpa [Around.deeper] using h
/-- a body keeps its promise; its code object is known -/
theorem fn_bodyG {x qual : Str} {at_ : He.Defn} {fd : FuncData} {st : Stmt} {N ps : List Str} {k : Nat} {rs : RS} (F : FunD K x qual (defArgs st) (defBody st) (defScope st) [] [] (He.fAd K at_) fd) (S : FnScope N ps (defScope st))
    (hbody : ∀ (cdv : Value) (A : Around) (outer : List Env) (s : Shared) (H : Hp) (E : XK), A.guards = some [] → cdv = .ref (He.codeOf K at_) → Room k (A.deeper (envOfC qual (defScope st) s.heap.objs.size (He.fAd K at_) cdv)) →
      Takes (cxOf (L2.CX P w) P w K mg base N qual (defScope st) (He.fAd K at_) cdv A outer s H E) (wxE w K G (bodyE w K G E)) →
      PassesOwn (model P w) (A.deeper (envOfC qual (defScope st) s.heap.objs.size (He.fAd K at_) cdv)) (envOfC qual (defScope st) s.heap.objs.size (He.fAd K at_) cdv) (cxOf (L2.CX P w) P w K mg base N qual (defScope st) (He.fAd K at_) cdv A outer s H E).xe →
      PXSs (cxOf (L2.CX P w) P w K mg base N qual (defScope st) (He.fAd K at_) cdv A outer s H E) G (bodyE w K G E) (defBody st) rs) :
    FnG P w K mg base (L2.CX P w) (k + 1) (He.fAd K at_) fd ps (spM w K G ps.length (fnM N.length rs)) := by
  refine ⟨fun vs H Q E h => h.1, fun A outer s H args us vs Q E hg hr e0 hb rv hsp => ?_⟩
  obtain ⟨oc, od, dV, kV, doc, pm, an, cdv, ct, osl, efd, lk, hcd, _, _⟩ := F.ex
  subst efd
  obtain ⟨c, rfl⟩ := He.codeIn_ref hcd
  have hco : He.codeOf K at_ = c := He.codeOf_eq lk rfl
  refine LamX.run_ofS lk hcd S hr e0 hb rv hsp.1 fun hr' => ?_
  obtain ⟨hl, vw, xs, eH, ok, r, q⟩ := hsp
  refine ⟨_, hbody (.ref c) A outer s H E hg (by rw [hco]) hr' (takes_imp (takes_of rfl rfl rfl rfl) ?_) (passes_of rfl), vw, envOf N.length xs, eH, ok, rep_start r, ?_⟩
  · rintro cls d σ H' ⟨vw', env, c, us, rfl, ok', re', xr, h⟩
    exact h cls d xr
  · unfold fnM at q
    show GS w K G vw (bodyE w K G E) (rs (envOf N.length xs) vw.st) _
    generalize rs (envOf N.length xs) vw.st = r1 at q
    cases r1 with
    | nx e st' => exact fun vw' σ l o es _ => q vw' l o es _ (by rw [show RelVV w K G vw' (.p .non) V.non = RelP w K G vw'.H vw'.Z .non V.non from rfl, RelP])
    | rt x st' => exact fun vw' v l o es rv => q vw' l o es v rv
    | ex c us e st' => exact fun vw' l o es => q vw' l o es
    | bk e st' => exact q.elim
    | ct e st' => exact q.elim
    | no => exact q.elim
end
section
variable {X : Cx} {G : Nat → Addr} {E : WE} {pos p : Pos} {x : Str} {e : Expr} {es : List Expr} {t : RA} {F : MF} {k : Nat} {f : Addr} {fd : FuncData} {ps : List Str}
theorem px_callG {n : Nat} (hgd : X.A.guards = some []) (hF : FnG X.prog X.w X.K X.mg X.base (L2.CX X.prog X.w) k f fd ps (spM X.w X.K G n F)) (hr : Room k X.A) (hg : Gl X x) (hm : X.mg x = some (.ref f)) (hk : PySem.W.keepIn X.K (.ref f) = true) (hb : Binds X.K fd ps [])
    (tk : Takes X (wxE X.w X.K G E)) (ha : PXA X G E (e :: es) t) (hdb : (x == ("__debug__" : Str)) = false := by decide) (he : starEach (e :: es) X.env = (false, eval e X.env) :: starEach es X.env := by rfl) (hpl : (backTo pos (starEach es X.env)).any (·.1) = false := by rfl) :
    PX X G E (.Call (.Name x p) (e :: es) [] pos) (rCall (rArity n F) t) := by
  refine ⟨fun pins s σ H Q I ⟨vw, env, eH, ok, re, q⟩ => ?_⟩
  refine wpAny_Call_Name_kw (ld_glob I hg hm ?_ hdb)
  refine PySem.W.callWith_K (h₀ := X.base) I.ok.mod.kin hk (thn (ha.run pos pins s σ H (fun vs H1 => spM X.w X.K G n F vs H1 Q (L2.WE (wxE X.w X.K G E) σ)) I ⟨vw, env, eH, ok, re, (GQ.bind q).imp fun vw1 xs l1 ok1 q1 vs rs => ?_⟩) fun us s1 ⟨vs, H1, I1, r, q1⟩ => ⟨I1.kIn, ?_⟩) he hpl
  · unfold rArity at q1
    split at q1
    · rename_i hn
      exact call_read rfl ok1 (re.mono l1) (by rw [← rs.len]; exact hn) rs q1
    · exact q1.elim
  · show wpAny _ _ (call (.ref f) us) _ _ _
    have hl : us.length = ps.length := r.length.symm.trans (hF.len _ _ _ _ q1)
    have b := hb s1 us I1.kIn (by rw [List.append_nil]; exact hl)
    rw [List.append_nil] at b
    refine wpAny_call (codeAny_mono (hF.go X.A X.stack s1 H1 ⟨us, []⟩ us vs Q _ hgd hr I1.env0 b r q1) fun r1 s2 hq => ?_)
    cases r1 with
    | error e => exact passAt tk σ pins H1 s1 e s2 I1 hq
    | ok fl =>
      cases fl with
      | ret u => exact I1.after hq
      | next => exact False.elim hq
      | brk => exact False.elim hq
      | cont => exact False.elim hq
end
end Ev
end S_X18
section S_X19
open PySem PySem.Spec PyProof.Rows L2
namespace Ev
/-! ### a value's text -/
def keyD : PV → Option PyData
  | .int i => some (.int i)
  | .str z => some (.str z)
  | _ => none
def keysD : List PV → Option (List PyData)
  | [] => some []
  | x :: xs => match keyD x, keysD xs with
    | some d, some ds => some (d :: ds)
    | _, _ => none
mutual
def PV.toE : PV → Option PyData
  | .non => some .none
  | .bl b => some (.bool b)
  | .int i => some (.int i)
  | .str x => some (.str x)
  | .tup xs => (PV.toEs xs).map .tuple
  | .lst xs => (PV.toEs xs).map .list
  | .dct nk ks us => if nk = false ∧ ks.length = us.length then (match keysD ks, PV.toEs us with
    | some a, some b => some (.dict (a.zip b))
    | _, _ => none) else none
  | _ => none
def PV.toEs : List PV → Option (List PyData)
  | [] => some []
  | x :: xs => match PV.toE x, PV.toEs xs with
    | some d, some ds => some (d :: ds)
    | _, _ => none
end
/-- u reads as d, and shows so -/
def Sh (P : Program) (w : World) (h : Heap) (u : Value) (d : PyData) : Prop := ∃ as bs, Reads h u d as ∧ ReadAtMost h d.depth bs ∧ ReprK P w bs h d.depth u d.shown
def ShA (P : Program) (w : World) (h : Heap) (us : List Value) (ds : List PyData) : Prop := ∃ as bs, ReadsAll h us ds as ∧ ReadAtMost h (PyData.depthAll ds) bs ∧ ReprAllK P w bs h (PyData.depthAll ds) us (PyData.shownAll ds)
section
variable {P : Program} {w : World} {h : Heap}
theorem ShA.nil : ShA P w h [] [] := ⟨[], [], .nil, (fun _ z => nomatch z), by simp only [PyData.shownAll]; exact .nil⟩
theorem ShA.cons {u : Value} {us : List Value} {d : PyData} {ds : List PyData} (a : Sh P w h u d) (b : ShA P w h us ds) : ShA P w h (u :: us) (d :: ds) := by
  obtain ⟨a1, a2, a3, a4, a5⟩ := a
  obtain ⟨b1, b2, b3, b4, b5⟩ := b
  refine ⟨_, a2 ++ b2, .cons a3 b3, ?_, ?_⟩
  · simp only [PyData.depthAll]
    exact (a4.mono (Nat.le_max_left _ _)).append (b4.mono (Nat.le_max_right _ _))
  · simp only [PyData.depthAll, PyData.shownAll]
    exact .cons ((a5.more fun c z => List.mem_append_left _ z).level_le (Nat.le_max_left _ _)) (b5.more_le (fun c z => List.mem_append_right _ z) (Nat.le_max_right _ _))
theorem Sh.none : Sh P w h .none .none := ⟨[], [], .none, (fun _ z => nomatch z), by simp only [PyData.shown]; exact ReprK.of_is ReprIs.none [] _ _⟩
theorem Sh.bool (b : Bool) : Sh P w h (.bool b) (.bool b) := ⟨[], [], .bool b, (fun _ z => nomatch z), by simp only [PyData.shown]; exact ReprK.of_is (ReprIs.bool b) [] _ _⟩
theorem Sh.int (i : Int) (t : Tok) (hi : i.natAbs.log2 < 1920) : Sh P w h (.int i t) (.int i) := ⟨[], [], .int i t, (fun _ z => nomatch z), by simp only [PyData.shown]; exact ReprK.of_is (ReprIs.int t hi) [] _ _⟩
theorem Sh.str (x : Str) (t : Tok) (hz : (reprText x).length ≤ sizeLine) : Sh P w h (.str x t) (.str x) := ⟨[], [], .str x t, (fun _ z => nomatch z), by simp only [PyData.shown]; exact ReprK.of_is (ReprIs.str x t hz) [] _ _⟩
theorem Sh.tuple {a : Addr} {o : Obj} {its : List Value} {n : Nat} {ds : List PyData} (e : h.get? a = some o) (ec : o.cls = .type "tuple") (ed : o.data = .seq its.toArray n) (s : ShA P w h its ds) : Sh P w h (.ref a) (.tuple ds) := by
  obtain ⟨b1, b2, b3, b4, b5⟩ := s
  have r : Reads h (.ref a) (.tuple ds) b1 := .tuple e ec ed b3
  have na : a ∉ b2 := not_mem_of_deeper r (by simp only [PyData.depth]; omega) b4
  refine ⟨_, a :: b2, r, ReadAtMost.cons r (by simp only [PyData.depth]; omega) b4, ?_⟩
  simp only [PyData.depth, PyData.shown]
  exact ReprK.tuple e ec ed na b5
theorem Sh.list {a : Addr} {o : Obj} {its : List Value} {n : Nat} {ds : List PyData} (e : h.get? a = some o) (ec : o.cls = .type "list") (ed : o.data = .seq its.toArray n) (s : ShA P w h its ds) : Sh P w h (.ref a) (.list ds) := by
  obtain ⟨b1, b2, b3, b4, b5⟩ := s
  have r : Reads h (.ref a) (.list ds) (a :: b1) := .list e ec ed b3
  have na : a ∉ b2 := not_mem_of_deeper r (by simp only [PyData.depth]; omega) b4
  refine ⟨_, a :: b2, r, ReadAtMost.cons r (by simp only [PyData.depth]; omega) b4, ?_⟩
  simp only [PyData.depth, PyData.shown]
  cases its with
  | nil =>
    cases b3
    simp only [PyData.shownAll, listText_nil]
    exact ReprK.listEmpty e ec ed
  | cons y l => exact ReprK.list e ec ed na (by simpa using b5.length_eq) (fun i z q => b5.item i z (by simpa using q))
theorem Sh.dict {a : Addr} {o : Obj} {es : Array DictEntry} {n : Nat} {kvs : List (PyData × PyData)} (e : h.get? a = some o) (ec : o.cls = .type "dict") (ed : o.data = .dict es n) (hs : (a == sysModules) = false)
    (k : ShA P w h (es.toList.map (·.key)) (kvs.map (·.1))) (v : ShA P w h (es.toList.map (·.val)) (kvs.map (·.2))) : Sh P w h (.ref a) (.dict kvs) := by
  obtain ⟨k1, k2, k3, k4, k5⟩ := k
  obtain ⟨v1, v2, v3, v4, v5⟩ := v
  have r : Reads h (.ref a) (.dict kvs) (a :: k1 ++ v1) := .dict e ec ed k3 v3
  have hb : ReadAtMost h (PyData.depthKv kvs) (k2 ++ v2) := (k4.mono (PyData.depthAll_keys_le kvs)).append (v4.mono (PyData.depthAll_vals_le kvs))
  have na : a ∉ k2 ++ v2 := not_mem_of_deeper r (by simp only [PyData.depth]; omega) hb
  refine ⟨_, a :: (k2 ++ v2), r, ReadAtMost.cons r (by simp only [PyData.depth]; omega) hb, ?_⟩
  simp only [PyData.depth, PyData.shown, PyData.shownKv_eq]
  exact ReprK.dict e ec ed hs na (ReprEntriesK.of_two es.toList _ _ (k5.more_le (fun c z => List.mem_append_left _ z) (PyData.depthAll_keys_le kvs)) (v5.more_le (fun c z => List.mem_append_right _ z) (PyData.depthAll_vals_le kvs)))
end
/-! sizes fit -/
mutual
def PyData.fits : PyData → Bool
  | .none | .bool _ => true
  | .int i => decide (i.natAbs.log2 < 1920)
  | .str x => decide ((reprText x).length ≤ sizeLine)
  | .list xs | .tuple xs => fitsAll xs
  | .dict kvs => fitsKv kvs
def PyData.fitsAll : List PyData → Bool
  | [] => true
  | x :: xs => PyData.fits x && PyData.fitsAll xs
def PyData.fitsKv : List (PyData × PyData) → Bool
  | [] => true
  | (k, v) :: r => PyData.fits k && (PyData.fits v && PyData.fitsKv r)
end
theorem fitsKv_split : ∀ {as bs : List PyData}, as.length = bs.length → PyData.fitsKv (as.zip bs) = true → PyData.fitsAll as = true ∧ PyData.fitsAll bs = true
  | [], [], _, _ => ⟨by rw [PyData.fitsAll], by rw [PyData.fitsAll]⟩
  | [], _ :: _, h, _ => by cases h
  | _ :: _, [], h, _ => by cases h
  | a :: as, b :: bs, h, f => by
    rw [List.zip_cons_cons, PyData.fitsKv, Bool.and_eq_true, Bool.and_eq_true] at f
    obtain ⟨i1, i2⟩ := fitsKv_split (by simpa using h) f.2.2
    rw [PyData.fitsAll, PyData.fitsAll, f.1, f.2.1, i1, i2]
    exact ⟨rfl, rfl⟩
section
variable {X : Cx} {G : Nat → Addr} {pins : List (Addr × Obj)} {σ : SSt} {H : Hp} {s : Shared} {Z : Addr → Prop}
theorem keys_sh {P : Program} {w : World} {h : Heap} {pr : Program} {wr : World} : ∀ {kvs : List (Key × V)} {vs : List (Key × Value)} {es : List DictEntry} {ks : List PyData}, KV kvs vs → PySem.Pairs (mixKind pr wr) es vs → keysD (kvs.map fun kv => kP kv.1) = some ks → PyData.fitsAll ks = true →
    ShA P w h (es.map (·.key)) ks ∧ Vals (kvs.map (·.2)) (es.map (·.val))
  | _, _, _, _, .nil, .nil, e, _ => by
    rw [List.map_nil, keysD] at e
    cases e
    exact ⟨.nil, .nil⟩
  | (k, v) :: kvs, _, _, ks, .cons ⟨ek, ev⟩ r, .cons hk hv pr', e, f => by
    rw [List.map_cons, keysD] at e
    split at e
    · rename_i d ds e1 e2
      cases e
      rw [PyData.fitsAll, Bool.and_eq_true] at f
      obtain ⟨i1, i2⟩ := keys_sh (P := P) (w := w) (h := h) r pr' e2 f.2
      have hkey := hk
      rw [← ek] at hkey
      refine ⟨ShA.cons ?_ i1, .cons (by dsimp only; rw [hv]; exact ev) i2⟩
      dsimp only
      have hkey : keyIs k _ = true := hkey
      rcases keyIs_shape hkey with ⟨i, t, e3, e4⟩ | ⟨x, t, e3, e4⟩
      · have e3' : k = Sum.inl i := e3
        subst e3'
        rw [e4]
        cases e1
        exact .int i t (by simpa [PyData.fits] using f.1)
      · have e3' : k = Sum.inr x := e3
        subst e3'
        rw [e4]
        cases e1
        exact .str x t (by simpa [PyData.fits] using f.1)
    · cases e
theorem keysD_len : ∀ {ks : List PV} {ds : List PyData}, keysD ks = some ds → ds.length = ks.length
  | [], _, e => by cases e; rfl
  | k :: ks, _, e => by
    rw [keysD] at e
    split at e
    · rename_i e1 e2
      cases e
      simp [keysD_len e2]
    · cases e
theorem toEs_len : ∀ {ks : List PV} {ds : List PyData}, PV.toEs ks = some ds → ds.length = ks.length
  | [], _, e => by rw [PV.toEs] at e; cases e; rfl
  | k :: ks, _, e => by
    rw [PV.toEs] at e
    split at e
    · rename_i e1 e2
      cases e
      simp [toEs_len e2]
    · cases e
theorem zip_fst : ∀ {α β : Type} {as : List α} {bs : List β}, as.length = bs.length → (as.zip bs).map (·.1) = as ∧ (as.zip bs).map (·.2) = bs
  | _, _, [], [], _ => ⟨rfl, rfl⟩
  | _, _, [], _ :: _, h => by cases h
  | _, _, _ :: _, [], h => by cases h
  | _, _, a :: as, b :: bs, h => by
    obtain ⟨i, j⟩ := zip_fst (as := as) (bs := bs) (by simpa using h)
    rw [List.zip_cons_cons, List.map_cons, List.map_cons, i, j]
    exact ⟨rfl, rfl⟩
mutual
theorem sh_of (I : Inv X pins σ H s) : ∀ (x : PV) (d : PyData) (v : V) (u : Value), x.toE = some d → PyData.fits d = true → RelP X.w X.K G H Z x v → RelV v u → Sh X.prog X.w s.heap u d
  | .non, d, v, u, e, f, r, rv => by
    rw [PV.toE] at e
    rw [RelP] at r
    cases e
    subst r
    obtain rfl : u = Value.none := rv
    exact .none
  | .bl b, d, v, u, e, f, r, rv => by
    rw [PV.toE] at e
    rw [RelP] at r
    cases e
    subst r
    obtain rfl : u = Value.bool b := rv
    exact .bool b
  | .int i, d, v, u, e, f, r, rv => by
    rw [PV.toE] at e
    rw [RelP] at r
    cases e
    subst r
    obtain ⟨t, rfl⟩ := rv
    exact .int i t (by simpa [PyData.fits] using f)
  | .str x, d, v, u, e, f, r, rv => by
    rw [PV.toE] at e
    rw [RelP] at r
    cases e
    subst r
    obtain ⟨t, rfl⟩ := rv
    exact .str x t (by simpa [PyData.fits] using f)
  | .tup xs, d, v, u, e, f, r, rv => by
    rw [PV.toE] at e
    rw [RelP] at r
    obtain ⟨ds, e1, rfl⟩ := Option.map_eq_some_iff.mp e
    obtain ⟨a, vs, rfl, t, _, r1⟩ := r
    obtain rfl : u = Value.ref a := rv
    obtain ⟨its, rvs, ⟨o, ho, hc, n, hd⟩, _⟩ := I.tuple t
    exact .tuple ho hc hd (shs_of I xs ds vs its e1 (by simpa [PyData.fits] using f) r1 rvs)
  | .lst xs, d, v, u, e, f, r, rv => by
    rw [PV.toE] at e
    rw [RelP] at r
    obtain ⟨ds, e1, rfl⟩ := Option.map_eq_some_iff.mp e
    obtain ⟨a, vs, rfl, _, t, _, r1⟩ := r
    obtain rfl : u = Value.ref a := rv
    obtain ⟨its, rvs, ⟨o, n, ho, hc, _, hd⟩, _⟩ := I.list (.of t)
    exact .list ho hc hd (shs_of I xs ds vs its e1 (by simpa [PyData.fits] using f) r1 rvs)
  | .dct true ks us, d, v, u, e, f, r, rv => by
    rw [PV.toE] at e
    simp at e
  | .dct false ks us, d, v, u, e, f, r, rv => by
    rw [PV.toE] at e
    split at e
    · rename_i hl
      split at e
      · rename_i a b ea eb
        cases e
        rw [RelP] at r
        obtain ⟨p, rfl, _, kvs, fz, ek, rus⟩ := r
        obtain rfl : u = Value.ref p := rv
        obtain ⟨_, hsys, vs, rel, o, es, ep, ho, hx, hd, _, hp, _⟩ := dk_rd I.hok fz.rd
        have l1 : a.length = b.length := by rw [keysD_len ea, toEs_len eb, hl.2]
        rw [PyData.fits] at f
        obtain ⟨f1, f2⟩ := fitsKv_split l1 f
        obtain ⟨z1, z2⟩ := zip_fst l1
        rw [ek] at ea
        obtain ⟨s1, s2⟩ := keys_sh (P := X.prog) (w := X.w) (h := s.heap) rel hp ea f1
        refine .dict ho hx.1 hd hsys ?_ ?_
        · rw [z1]; exact s1
        · rw [z2]; exact shs_of I us b _ _ eb f2 rus s2
      · cases e
    · cases e
  | .ins _ _ _, d, v, u, e, f, r, rv => by rw [PV.toE] at e <;> first | cases e | (intros; contradiction)
  | .ty _, d, v, u, e, f, r, rv => by rw [PV.toE] at e <;> first | cases e | (intros; contradiction)
  | .glb _, d, v, u, e, f, r, rv => by rw [PV.toE] at e <;> first | cases e | (intros; contradiction)
  | .lsf _, d, v, u, e, f, r, rv => by rw [PV.toE] at e <;> first | cases e | (intros; contradiction)
theorem shs_of (I : Inv X pins σ H s) : ∀ (xs : List PV) (ds : List PyData) (vs : List V) (us : List Value), PV.toEs xs = some ds → PyData.fitsAll ds = true → RelPs X.w X.K G H Z xs vs → Vals vs us → ShA X.prog X.w s.heap us ds
  | [], ds, vs, us, e, f, r, rv => by
    rw [PV.toEs] at e
    rw [RelPs] at r
    cases e
    subst r
    cases rv
    exact .nil
  | x :: xs, ds, vs, us, e, f, r, rv => by
    rw [PV.toEs] at e
    rw [RelPs] at r
    obtain ⟨v, vs', rfl, r1, r2⟩ := r
    split at e
    · rename_i d ds' e1 e2
      cases e
      rw [PyData.fitsAll, Bool.and_eq_true] at f
      cases rv with
      | cons q1 q2 => exact .cons (sh_of I x d v _ e1 f.1 r1 q1) (shs_of I xs ds' vs' _ e2 f.2 r2 q2)
    · cases e
end
end
end Ev
end S_X19
section S_X20
open PySem PySem.Spec PyProof.Rows L2
namespace Ev
/-- repr -/
def showOk (d : PyData) : Bool := PyData.fits d && (decide (d.depth ≤ 100) && decide (d.shown.length ≤ sizeLine))
def bRepr : MF := fun xs st => match xs with
  | [.p x] => (match x.toE with
    | some d => if showOk d = true then .ok (.p (.str d.shown)) st else .no
    | none => .no)
  | _ => .no
section
variable {X : Cx} {G : Nat → Addr}
theorem repr_run {pins : List (Addr × Obj)} {σ : SSt} {H : Hp} {s : Shared} {Z : Addr → Prop} {Q : Value → Shared → Prop} {E : Value → Shared → Prop} (hg : X.A.guards = some []) (hu : X.A.units + 101 < cLine) (I : Inv X pins σ H s) {x : PV} {d : PyData} {v : V} {u : Value} (e : x.toE = some d) (f : showOk d = true)
    (r : RelP X.w X.K G H Z x v) (rv : RelV v u) (h : ∀ h' t tk, (∀ b o, s.heap.get? b = some o → h'.get? b = some o) → Q (.str d.shown t) { s with heap := h', toks := tk }) : wpAny (model X.prog X.w) X.A (call (.builtin "repr") [u]) Q E s := by
  unfold showOk at f
  simp only [Bool.and_eq_true, decide_eq_true_eq] at f
  obtain ⟨ff, fd, fs⟩ := f
  cases x with
  | non =>
    rw [PV.toE] at e; rw [RelP] at r; cases e; subst r
    obtain rfl : u = Value.none := rv
    exact PySem.P.repr_of_none (by have := h s.heap s.toks (s.toks + 1) (fun _ _ z => z); simpa only [PyData.shown] using this)
  | bl b =>
    rw [PV.toE] at e; rw [RelP] at r; cases e; subst r
    obtain rfl : u = Value.bool b := rv
    exact PySem.P.repr_of_bool (by have := h s.heap s.toks (s.toks + 1) (fun _ _ z => z); simpa only [PyData.shown] using this)
  | int i =>
    rw [PV.toE] at e; rw [RelP] at r; cases e; subst r
    obtain ⟨t, rfl⟩ := rv
    exact PySem.P.repr_of_int (by simpa [PyData.fits] using ff) (by have := h s.heap s.toks (s.toks + 1) (fun _ _ z => z); simpa only [PyData.shown] using this)
  | str z =>
    rw [PV.toE] at e; rw [RelP] at r; cases e; subst r
    obtain ⟨t, rfl⟩ := rv
    exact PySem.P.repr_of_str (by have := h s.heap s.toks (s.toks + 1) (fun _ _ z => z); simpa only [PyData.shown] using this) (by simpa [PyData.fits] using ff)
  | tup xs =>
    rw [PV.toE] at e
    rw [RelP] at r
    obtain ⟨ds, e1, rfl⟩ := Option.map_eq_some_iff.mp e
    obtain ⟨a, vs, rfl, t, _, r1⟩ := r
    obtain rfl : u = Value.ref a := rv
    obtain ⟨its, rvs, ⟨o, ho, hc, n, hd⟩, _⟩ := I.tuple t
    obtain ⟨b1, b2, b3, b4, b5⟩ := shs_of I xs ds vs its e1 (by simpa [PyData.fits] using ff) r1 rvs
    have rr : Reads s.heap (.ref a) (.tuple ds) b1 := .tuple ho hc hd b3
    have na : a ∉ b2 := not_mem_of_deeper rr (by simp only [PyData.depth]; omega) b4
    simp only [PyData.depth] at fd
    simp only [PyData.shown] at h fs
    refine call_repr_slot (by omega) ⟨o, ho, hc⟩ F.slot_tuple_repr (call_tuple_reprK ho hc hd na b5 hg (fun b _ => Clear.nil b) (by show X.A.units + 1 + _ < cLine; omega) (fun _ _ z => z) (fun h' t tk hk => ⟨_, _, rfl, h h' t tk hk⟩) fs)
  | lst xs =>
    rw [PV.toE] at e
    rw [RelP] at r
    obtain ⟨ds, e1, rfl⟩ := Option.map_eq_some_iff.mp e
    obtain ⟨a, vs, rfl, _, t, _, r1⟩ := r
    obtain rfl : u = Value.ref a := rv
    obtain ⟨its, rvs, ⟨o, n, ho, hc, _, hd⟩, _⟩ := I.list (.of t)
    obtain ⟨b1, b2, b3, b4, b5⟩ := shs_of I xs ds vs its e1 (by simpa [PyData.fits] using ff) r1 rvs
    have rr : Reads s.heap (.ref a) (.list ds) (a :: b1) := .list ho hc hd b3
    have na : a ∉ b2 := not_mem_of_deeper rr (by simp only [PyData.depth]; omega) b4
    simp only [PyData.depth] at fd
    simp only [PyData.shown] at h fs
    cases its with
    | nil =>
      cases b3
      simp only [PyData.shownAll, listText_nil] at h
      exact call_repr_slot (by omega) ⟨o, ho, hc⟩ F.slot_list_repr.toG (call_list_repr_empty ⟨o, ho, hc⟩ ho hd ⟨_, _, rfl, h s.heap _ _ fun _ _ z => z⟩)
    | cons y l =>
      exact call_repr_slot (by omega) ⟨o, ho, hc⟩ F.slot_list_repr.toG (call_list_reprK ho hc hd na (by simpa using b5.length_eq) (fun i z q => b5.item i z (by simpa using q)) hg (fun b _ => Clear.nil b) (by show X.A.units + 1 + _ < cLine; omega) (fun _ _ z => z) (fun h' t tk hk => ⟨_, _, rfl, h h' t tk hk⟩) fs)
  | dct nk ks us =>
    cases nk with
    | true =>
      rw [PV.toE] at e
      simp at e
    | false =>
      rw [PV.toE] at e
      split at e
      · rename_i hl
        split at e
        · rename_i a b ea eb
          cases e
          rw [RelP] at r
          obtain ⟨p, rfl, _, kvs, fz, ek, rus⟩ := r
          obtain rfl : u = Value.ref p := rv
          obtain ⟨_, hsys, vs, rel, o, es, ep, ho, hx, hd, _, hp, _⟩ := dk_rd I.hok fz.rd
          have l1 : a.length = b.length := by rw [keysD_len ea, toEs_len eb, hl.2]
          rw [PyData.fits] at ff
          obtain ⟨f1, f2⟩ := fitsKv_split l1 ff
          obtain ⟨z1, z2⟩ := zip_fst l1
          rw [ek] at ea
          obtain ⟨s1, s2⟩ := keys_sh (P := X.prog) (w := X.w) (h := s.heap) rel hp ea f1
          rw [← z1] at s1
          obtain ⟨k1, k2, k3, k4, k5⟩ := s1
          have s3 := shs_of I us b _ _ eb f2 rus s2
          rw [← z2] at s3
          obtain ⟨v1, v2, v3, v4, v5⟩ := s3
          have rr : Reads s.heap (.ref p) (.dict (a.zip b)) (p :: k1 ++ v1) := .dict ho hx.1 hd k3 v3
          have hb : ReadAtMost s.heap (PyData.depthKv (a.zip b)) (k2 ++ v2) := (k4.mono (PyData.depthAll_keys_le _)).append (v4.mono (PyData.depthAll_vals_le _))
          have na : p ∉ k2 ++ v2 := not_mem_of_deeper rr (by simp only [PyData.depth]; omega) hb
          simp only [PyData.depth] at fd
          simp only [PyData.shown, PyData.shownKv_eq] at h fs
          exact call_repr_slot (by omega) ⟨o, ho, hx.1⟩ F.slot_dict_repr (call_dict_reprK ho hx.1 hd hsys na (ReprEntriesK.of_two es.toList _ _ (k5.more_le (fun c z => List.mem_append_left _ z) (PyData.depthAll_keys_le _)) (v5.more_le (fun c z => List.mem_append_right _ z) (PyData.depthAll_vals_le _)))
            hg (fun b _ => Clear.nil b) (by show X.A.units + 1 + _ < cLine; omega) (fun _ _ z => z) (fun h' t tk hk => ⟨_, _, rfl, h h' t tk hk⟩) fs)
        · cases e
      · cases e
  | ins a b c => rw [PV.toE] at e <;> first | cases e | (intros; contradiction)
  | ty a => rw [PV.toE] at e <;> first | cases e | (intros; contradiction)
  | glb a => rw [PV.toE] at e <;> first | cases e | (intros; contradiction)
  | lsf a => rw [PV.toE] at e <;> first | cases e | (intros; contradiction)
theorem cb_repr (hg : X.A.guards = some []) (hu : X.A.units + 101 < cLine) : CallR X (.builtin "repr") (qB X.w X.K G bRepr) := by
  rintro pins s σ H vs us Q I r ⟨vw, xs, rfl, ok, rs, q⟩
  unfold bRepr at q
  split at q
  · rename_i x
    obtain ⟨v, _, rfl, rv, rfl⟩ := rs
    obtain ⟨u, rfl, ru⟩ : ∃ u, us = [u] ∧ RelV v u := by
      cases r with
      | cons a b => cases b; exact ⟨_, rfl, a⟩
    split at q
    · rename_i d e
      split at q
      · rename_i f
        refine repr_run hg hu I e f (show RelP X.w X.K G vw.H vw.Z x v from rv) ru fun h' t tk hk => ?_
        exact ⟨.str _, vw.H, I.kept hk, ⟨t, rfl⟩, q vw .rfl' ok rfl _ (by show RelP _ _ _ _ _ _ _; rw [RelP])⟩
      · exact q.elim
    · exact q.elim
  · exact q.elim
end
end Ev
end S_X20
section S_X21
open PySem PySem.Spec PyProof.Rows L2
namespace Ev
/-! ### xs.count(x), flat items -/
def bCount : MF := fun xs st => match xs with
  | [z, .p x] => (match seqOf st z with
    | some (true, ys) => bif x.flat && ys.all PV.flat then .ok (.p (.int ((ys.countP fun y => eqF y x : Nat)))) st else .no
    | _ => .no)
  | _ => .no
theorem count_rel {w : World} {K : PySem.W.Frag} {G : Nat → Addr} {H : Hp} {Z : Addr → Prop} {x : PV} {v : V} (fx : x.flat = true) (rx : RelP w K G H Z x v) : ∀ {ys : List PV} {vs : List V} {us : List Value}, RelPs w K G H Z ys vs → Vals vs us → ys.all PV.flat = true → vs.all flatV = true →
    us.countP (eqU v) = ys.countP fun y => eqF y x
  | [], vs, us, r, rv, f, g => by
    rw [RelPs] at r
    subst r
    cases rv
    rfl
  | y :: ys, vs, us, r, rv, f, g => by
    rw [RelPs] at r
    obtain ⟨a, vs', rfl, r1, r2⟩ := r
    rw [List.all_cons, Bool.and_eq_true] at f g
    cases rv with
    | cons q1 q2 =>
      rw [List.countP_cons, List.countP_cons, count_rel fx rx r2 q2 f.2 g.2, eqU_of q1 g.1, eqF_rel r1 rx f.1 fx]
section
variable {X : Cx} {G : Nat → Addr} {E : WE}
theorem mb_count : MB X G "list.count" bCount := by
  rintro pins s σ H x vs u us Q I ru rus ⟨vw, xs, rfl, ok, rs, q⟩
  unfold bCount at q
  split at q
  · rename_i z y
    obtain ⟨_, _, e0, rz, v1, _, rfl, ry, rfl⟩ := rs
    cases e0
    split at q
    · rename_i ys e
      cases c : y.flat && ys.all PV.flat with
      | false => rw [c] at q; exact q.elim
      | true =>
        rw [c, cond_true] at q
        rw [Bool.and_eq_true] at c
        obtain ⟨p, ws, rfl, hl, rw_, h⟩ := seqOf_rel ok rz e
        rw [if_pos rfl] at h
        have ry : RelP X.w X.K G vw.H vw.Z y v1 := ry
        cases ru
        obtain ⟨uy, rfl, ruy⟩ := rus.one
        obtain ⟨its, rv, ⟨⟨cls, dd, data, sl⟩, n, ho, hc, hdn, hd⟩, hlen⟩ := I.list h
        simp only at hc hd
        subst hc hd
        have fy := flat_rel ry c.1
        have fws := flats_rel rw_ c.2
        refine call_meets PySem.F.slot_list_count ⟨_, ho, rfl⟩ PySem.F.entry_list_count (PySem.F.args_list_count_2 _ _)
          (SeqAt.list_countAt p its.toArray n dd sl uy (eqU v1)) ⟨ho, fun u' hu' => mem_eqAt ruy fy rv fws u' (by simpa using hu'), ?_⟩
        have ec : its.toArray.toList.countP (eqU v1) = ys.countP fun y' => eqF y' y := count_rel c.1 ry rw_ rv c.2 fws
        refine ⟨.int ((ys.countP fun y' => eqF y' y : Nat)), vw.H, I.tok _, ⟨s.toks, ?_⟩, q vw .rfl' ok rfl _ vvInt⟩
        show Value.int ((its.toArray.toList.countP (eqU v1) : Nat) : Int) s.toks = _
        rw [ec]
    · exact q.elim
  · exact q.elim
variable {pos p apos cpos : Pos} {o e : Expr} {es : List Expr} {t : RA} {ra : RX}
theorem px_count (ho : PX X G E o ra) (ha : PXA X G E [e] t)
    (hbase : attributeBase o "count" X.env (eval o X.env) = eval o X.env := by rfl)
    (hfew : ((backTo cpos (starEach [e] X.env)).all (fun x => !x.1) && (backToKw cpos (keywordEach [] X.env)).all (fun x => x.1.isSome)
      && decide (([e] : List Expr).length + ([] : List Keyword).length + (if ([] : List Keyword).isEmpty then 0 else 1) < 30)) = true := by rfl)
    (hline : (apos.endLine == cpos.line) = true := by rfl) (hs : starEach [e] X.env = (false, eval e X.env) :: starEach [] X.env := by rfl) (hplain : (backTo cpos (starEach [] X.env)).any (·.1) = false := by rfl) :
    PX X G E (.Call (.Attribute o "count" apos) [e] [] cpos) (rBM isL bCount ra t) := px_bm tyL PySem.F.plainAttrs_list PySem.F.slot_list_count PySem.F.type_list_count mb_count ho ha hbase hfew hline hs hplain
/-! ### isinstance of the handled exception, told in full -/
def bIsC (c k n : Nat) : MF := fun xs st => match xs with
  | [.p (.glb j), .p (.glb i)] => if j = k ∧ i < n then .ok (.p (.bl (decide (i = c)))) st else .no
  | [.p (.glb j), .p (.ty x)] => if j = k ∧ x = "ValueError" then .ok (.p (.bl true)) st else .no
  | _ => .no
/-- which of the classes below n the class at D is -/
def isCls (K : PySem.W.Frag) (G : Nat → Addr) (c n : Nat) : Bool := (List.range n).all (fun i => PySem.W.kitOne K (.ref (G c)) (.ref (G i)) == some (decide (i = c))) && (PySem.W.kitOne K (.ref (G c)) (.type "ValueError") == some true)
theorem isC_le {K : PySem.W.Frag} {G G' : Nat → Addr} {c k n : Nat} (h : isCls K G c n = true) (hG : ∀ i, i < n → G' i = G i) (xs : List VV) (st : Sto) : bIsC c k n xs st = .no ∨ bIsC c k n xs st = bIsX K G' (G c) k xs st := by
  unfold isCls at h
  rw [Bool.and_eq_true, List.all_eq_true] at h
  unfold bIsC
  split
  · rename_i j i
    split
    · rename_i q
      right
      have e := h.1 i (List.mem_range.mpr q.2)
      have e := eq_of_beq e
      unfold bIsX
      dsimp only
      rw [if_pos q.1]
      unfold isXv
      dsimp only
      rw [hG i q.2, e]
    · exact .inl rfl
  · rename_i j x
    split
    · rename_i q
      right
      have e := eq_of_beq h.2
      unfold bIsX
      dsimp only
      rw [if_pos q.1, q.2]
      unfold isXv
      dsimp only
      rw [e]
    · exact .inl rfl
  · exact .inl rfl
theorem cb_isC {a dd : Addr} {oe od : Obj} {c k n : Nat} {G0 : Nat → Addr} (T : ExAt X a (G0 c) dd oe od) (C : ExK X.K (G0 c)) (hG : G k = a) (h : isCls X.K G0 c n = true) (hG0 : ∀ i, i < n → G i = G0 i) : CallR X (.builtin "isinstance") (qB X.w X.K G (bIsC c k n)) := by
  rintro pins s σ H vs us Q I r ⟨vw, xs, rfl, ok, rs, q⟩
  rcases isC_le (k := k) h hG0 xs vw.st with e | e
  · rw [e] at q
    exact q.elim
  · rw [e] at q
    exact cb_isX T C hG pins s σ vw.H vs us Q I r ⟨vw, xs, rfl, ok, rs, q⟩
/-- an expression that is not met -/
def rNo : RX := fun _ _ => .no
theorem px_noE {e : Expr} : PX X G E e rNo := ⟨fun pins s σ H Q I ⟨vw, env, eH, ok, re, q⟩ => q.elim⟩
end
end Ev
end S_X21
section S_X22
open PySem PySem.Spec PyProof.Rows L2
namespace Ev
abbrev tabO : Obj := { cls := .none, data := .fields #[] }
/-- the abstract heap at the law's start: its script (if the module does not hold it), the tables -/
def startH (K : PySem.W.Frag) (T : List Addr) (a : Addr) (vs : List Value) (ns : List Int) : Hp := fun b =>
  if b ∈ T then some (.tbl #[]) else if b = a ∧ K.lookup a = none then some (.frz { cls := .type "list", data := .seq vs.toArray } (.lst (ns.map V.int))) else none
theorem startH_tab {K : PySem.W.Frag} {T : List Addr} {a b : Addr} {vs : List Value} {ns : List Int} (h : b ∈ T) : startH K T a vs ns b = some (.tbl #[]) := if_pos h
theorem startH_cases {K : PySem.W.Frag} {T : List Addr} {a : Addr} {vs : List Value} {ns : List Int} (b : Addr) :
    startH K T a vs ns b = none ∨ (b ∈ T ∧ startH K T a vs ns b = some (.tbl #[])) ∨ (b ∉ T ∧ b = a ∧ K.lookup a = none ∧ startH K T a vs ns b = some (.frz { cls := .type "list", data := .seq vs.toArray } (.lst (ns.map V.int)))) := by
  unfold startH
  by_cases h1 : b ∈ T
  · exact .inr (.inl ⟨h1, if_pos h1⟩)
  · rw [if_neg h1]
    by_cases h2 : b = a ∧ K.lookup a = none
    · exact .inr (.inr ⟨h1, h2.1, h2.2, if_pos h2⟩)
    · exact .inl (if_neg h2)
section
variable {P : Program} {w : World} {K : PySem.W.Frag} {mg mb : Str → Option Value} {k : Nat} {fa a : Addr} {cs : List (Addr × Addr)} {fd : FuncData} {x : Str} {sp : Sp} {s : Shared} {vs : List Value} {ns : List Int}
/-- the law's def called from the claim, its promise told where no repr is under way -/
theorem law_startG (KX : K.In s.heap) (gm : s.heap.Ns mainGlobals mg) (gb : s.heap.Ns builtinsNs mb) (gbb : ∀ y : Str, y ≠ "__name__" → mb y = bootBuiltins y) (nol : s.heap.NoLimit) (gg : s.gens = #[])
    (tT : ∀ p ∈ cs, s.heap.get? p.2 = some tabO) (tK : ∀ p ∈ cs, K.lookup p.2 = none) (tC : ∀ p ∈ cs, PySem.W.CodeHd s.heap p.1 p.2)
    (bm : ∃ (m : Addr) (o : Obj), mg "__builtins__" = some (.ref m) ∧ m ≠ builtinsNs ∧ s.heap.get? m = some o ∧ o.cls = .type "module" ∧ o.dict = some builtinsNs ∧ o.data = .plain)
    (la : s.heap.get? a = some { cls := .type "list", data := .seq vs.toArray }) (li : IntsAre vs ns) (ll : ns.length ≤ sizeLine) (room : Room k callerA)
    (F : ∀ base : Heap, K.In base → base.Ns mainGlobals mg → (∀ p ∈ cs, LamX.TabB base mg p.1 p.2) → FnG P w K mg base (L2.CX P w) k fa fd [x] sp) (bnd : ∀ (s : Shared) (u : Value), BindsTo s fd ⟨[u], []⟩ [(x, u)])
    (hsp : ∀ H : Hp, (∀ p ∈ cs, H p.2 = some (.tbl #[])) → SqL K H a (ns.map V.int) → (∀ b, H b = none ∨ H b = some (.tbl #[]) ∨ ∃ o l, H b = some (.frz o (.lst l))) → sp [.ref a] H (fun v _ => v = .bl true) fun _ _ _ => False) :
    codeAny (model P w) callerA (.call (.ref fa) ⟨[.ref a], []⟩) (fun r s' => r = .ok (.ret (.bool true)) ∧ OldK s.heap s'.heap ∧ s'.os = s.os ∧ AllBare s'.gens) s := by
  have rel := vals_ints li
  have llv := li.length
  let T := cs.map (·.2)
  let H := startH K T a vs ns
  have inT : ∀ p ∈ cs, p.2 ∈ T := fun p hp => List.mem_map.mpr ⟨p, hp, rfl⟩
  have ofT : ∀ b, b ∈ T → ∃ p ∈ cs, p.2 = b := fun b hb => List.mem_map.mp hb
  have getT : ∀ b, b ∈ T → s.heap.get? b = some tabO := fun b hb => by
    obtain ⟨p, hp, rfl⟩ := ofT b hb
    exact tT p hp
  have naT : a ∉ T := fun z => by
    have q := (getT a z).symm.trans la
    cases q
  -- what is neither the list nor a table is not tracked
  have free : ∀ {b : Addr} {o : Obj}, s.heap.get? b = some o → o.data ≠ .fields #[] → (∀ l n, o.data ≠ .seq l n) → H b = none := fun {b o} e n1 n2 => by
    rcases startH_cases (K := K) (T := T) (a := a) (vs := vs) (ns := ns) b with q | ⟨q, _⟩ | ⟨_, q, _⟩
    · exact q
    · have z := (getT b q).symm.trans e
      cases z
      exact absurd rfl n1
    · rw [q, la] at e
      cases e
      exact absurd rfl (n2 _ _)
  have hok : HOk P w H s.heap := fun b u e => by
    rcases startH_cases (K := K) (T := T) (a := a) (vs := vs) (ns := ns) b with q | ⟨h1, q⟩ | ⟨_, h1, _, q⟩
    · exact absurd (q.symm.trans e) (by simp)
    · have z := q.symm.trans e
      cases z
      exact getT b h1
    · have z := q.symm.trans e
      cases z
      rw [h1]
      exact ⟨la, by rw [List.length_map]; exact ll, vs, _, rel, la⟩
  have toB : ∀ {b : Addr} {o : Obj}, s.heap.get? b = some o → H b = none → (hidT s.heap H).get? b = some o := fun e n => hidT_get e n
  have nsB : ∀ {b : Addr} {m : Str → Option Value}, s.heap.Ns b m → (hidT s.heap H).Ns b m := fun {b m} ⟨o, es, ep, e, d, r⟩ =>
    ⟨o, es, ep, toB e (free e (by rw [d]; exact fun z => nomatch z) (by rw [d]; exact fun _ _ z => nomatch z)), d, r⟩
  have kB : K.In (hidT s.heap H) := fun b o e => toB (KX b o e) (by
    rcases startH_cases (K := K) (T := T) (a := a) (vs := vs) (ns := ns) b with q | ⟨q, _⟩ | ⟨_, q, q2, _⟩
    · exact q
    · obtain ⟨p, hp, rfl⟩ := ofT b q
      exact absurd ((tK p hp).symm.trans e) (by simp)
    · rw [q] at e
      exact absurd (q2.symm.trans e) (by simp))
  have modB : L2.Mod K mg (hidT s.heap H) := ⟨kB, nsB gm, ⟨mb, nsB gb, gbb⟩, let ⟨mc, h1, h2⟩ := nol; ⟨mc, nsB h1, h2⟩⟩
  have tabB : ∀ p ∈ cs, LamX.TabB (hidT s.heap H) mg p.1 p.2 := fun p hp => by
    refine ⟨?_, ?_, fun z => ?_⟩
    · obtain ⟨o, us, file, tf, flags, tg, inF, text, tt, e1, r1, r2, r3, rest⟩ := tC p hp
      refine ⟨o, us, file, tf, flags, tg, inF, text, tt, toB e1 (free e1 (fun z => ?_) fun l n z => ?_), r1, r2, r3, rest⟩
      · have z := r2.symm.trans z
        cases z
        simp at r3
      · exact absurd (r2.symm.trans z) (fun y => nomatch y)
    · obtain ⟨m, ob, b1, b2, b3, b4, b5, b6⟩ := bm
      have hf : H m = none := free b3 (by rw [b6]; exact fun z => nomatch z) (by rw [b6]; exact fun _ _ z => nomatch z)
      refine ⟨m, ob, b1, b2, fun q => ?_, fun q => ?_, toB b3 hf, b4, b5, b6⟩
      · obtain ⟨o, es, ep, e, hd, _⟩ := gm
        rw [q, e] at b3
        cases b3
        exact absurd (hd.symm.trans b6) (fun y => nomatch y)
      · rw [q, tT p hp] at b3
        cases b3
        cases b6
    · obtain ⟨o, es, ep, e, hd, _⟩ := gm
      rw [z, tT p hp] at e
      cases e
      cases hd
  have sq : SqL K H a (ns.map V.int) := by
    cases q : K.lookup a with
    | none => exact .inl (.inr ⟨_, (if_neg naT).trans (if_pos ⟨rfl, q⟩)⟩)
    | some o =>
      have e := KX a o q
      rw [la] at e
      cases e
      exact .inr ⟨_, vs.toArray, _, q, rfl, rfl, rfl, by rw [List.size_toArray, llv]; exact ll, by simpa using rel⟩
  have hsp' := hsp H (fun p hp => startH_tab (inT p hp)) sq fun b => by
    rcases startH_cases (K := K) (T := T) (a := a) (vs := vs) (ns := ns) b with q | ⟨_, q⟩ | ⟨_, _, _, q⟩
    · exact .inl q
    · exact .inr (.inl q)
    · exact .inr (.inr ⟨_, _, q⟩)
  have start : Env0 P w K mg (hidT s.heap H) callerA [] s H := by
    refine ⟨rfl, modB, fun b o e => of_hidT e, ?_, trivial, fun b hb => ?_, hok, .of_eq gg⟩
    · rw [hidT_size]
      exact Nat.le_refl _
    · cases hb
  refine codeAny_mono ((F _ kB (nsB gm) tabB).go callerA [] s H ⟨[.ref a], []⟩ [.ref a] [.ref a] _ _ rfl room start (bnd s (.ref a)) (.cons rfl .nil) hsp') fun r s' h => ?_
  cases r with
  | error e =>
    obtain ⟨_, _, _, _, _, _, _, _, _, _, _, _, _, z⟩ := h
  | ok fl =>
    cases fl with
    | next => exact False.elim h
    | brk => exact False.elim h
    | cont => exact False.elim h
    | ret u =>
      obtain ⟨v, H', os, bare, un, ok', rv, ev⟩ := h
      have ev : v = .bl true := ev
      subst ev
      obtain rfl : u = Value.bool true := rv
      have now : ∀ b ∈ T, ∃ more : Array Value, s'.heap.get? b = some { cls := .none, data := .fields more } := fun b hb => by
        obtain ⟨more, z⟩ := un.tbls b #[] (startH_tab hb)
        exact ⟨_, ok' b _ z⟩
      have old : ∀ b o, b ∉ T → s.heap.get? b = some o → s'.heap.get? b = some o := fun b o nb e => by
        rcases startH_cases (K := K) (T := T) (a := a) (vs := vs) (ns := ns) b with q | ⟨q, _⟩ | ⟨_, _, _, q⟩
        · exact un.keep b o e q (fun z => by cases z) (fun z => by cases z)
        · exact absurd q nb
        · have e1 : s.heap.get? b = _ := (hok b _ q).1
          have e2 : s'.heap.get? b = _ := (ok' b _ (un.frzs b _ _ q)).1
          rw [e] at e1
          cases e1
          exact e2
      refine ⟨rfl, ⟨fun b o e => ?_, fun b o e => ?_⟩, os, bare⟩
      · by_cases hb : b ∈ T
        · obtain ⟨more, hm⟩ := now b hb
          obtain ⟨p, hp, rfl⟩ := ofT b hb
          have e3 := (tT p hp).symm.trans e
          cases e3
          refine .inr (.inl ⟨((tC p hp).tab (tT p hp)).isCodeTable, rfl, #[], more, rfl, ?_⟩)
          rw [Array.empty_append]
          exact hm
        · exact .inl (old b o hb e)
      · by_cases hb : b ∈ T
        · obtain ⟨more, hm⟩ := now b hb
          exact ⟨_, hm⟩
        · exact ⟨o, old b o hb e⟩
end
/-- the law's walk from its promise -/
theorem walkG {l : PySem.W.OpenLaw} {n k : Nat} {q : Program} {loose : List Str} {XP : (Str → Option Value) → Heap → Prop} {YP : World → Heap → Prop} {d : DefRec} {x : Str}
    (hn : l.most = some n) (hn2 : n ≤ sizeLine) (hdf : d.params.defaults = []) (hr : Room k callerA)
    (F : ∀ (w : World) (mg : Str → Option Value) (fa : Addr) (h : Heap), YP w h → h.Ns mainGlobals mg → mg d.name = some (.ref fa) →
      ∃ (K : PySem.W.Frag) (fd : FuncData) (cs : List (Addr × Addr)) (sp : Sp), K.In h ∧ (∀ p ∈ cs, h.get? p.2 = some tabO) ∧ (∀ p ∈ cs, K.lookup p.2 = none) ∧ (∀ p ∈ cs, PySem.W.CodeHd h p.1 p.2) ∧ (∀ (s : Shared) (u : Value), BindsTo s fd ⟨[u], []⟩ [(x, u)]) ∧
        (∀ (H : Hp) (a : Addr) (ns : List Int), ns.length ≤ n → (∀ z ∈ ns, Builtin.Int.intBits z ≤ 1048576) → (∀ p ∈ cs, H p.2 = some (.tbl #[])) → SqL K H a (ns.map V.int) → (∀ b, H b = none ∨ H b = some (.tbl #[]) ∨ ∃ o l, H b = some (.frz o (.lst l))) →
          sp [.ref a] H (fun v _ => v = .bl true) fun _ _ _ => False) ∧
        ∀ base : Heap, K.In base → base.Ns mainGlobals mg → (∀ p ∈ cs, LamX.TabB base mg p.1 p.2) → FnG l.prog w K mg base (L2.CX l.prog w) k fa fd [x] sp) :
    PySem.W.WalkO q loose XP YP l.row.toRowW d [] (fun f vs => PySem.call f vs) := by
  refine Att.attach_callB hn hdf fun w s0 s1 mg mb fa o pm cd doc a vs ns G Y e1 e2 e3 hmg la li ll hbits gg => ?_
  obtain ⟨K, fd, cs, sp, KX, h1, h2, h3, h4, h5, h6⟩ := F w mg fa _ Y G.T.g hmg
  exact law_startG KX G.T.g G.T.b G.T.builtins G.T.nolimit gg h1 h2 h3 G.T.bmain la li (Nat.le_trans ll hn2) hr h6 h4 fun H z1 z2 z3 => h5 H a ns ll hbits z1 z2 z3
end Ev
end S_X22
section S_X23
open PySem PySem.Spec PyProof.Rows L2
namespace Ev
theorem rel_intsG {w : World} {K : PySem.W.Frag} {G : Nat → Addr} {H : Hp} {Z : Addr → Prop} : ∀ ns : List Int, RelPs w K G H Z (ns.map .int) (ns.map V.int)
  | [] => by rw [List.map, List.map, RelPs]
  | n :: ns => by
    rw [List.map, List.map, RelPs]
    exact ⟨_, _, rfl, relInt.mpr rfl, rel_intsG ns⟩
/-- the law's promise, from what its function gives -/
theorem sp_lawG {w : World} {K : PySem.W.Frag} {G : Nat → Addr} {F : MF} {H : Hp} {a : Addr} {ns : List Int} (h : F [.p (.lsf (ns.map .int))] [] = .ok (.p (.bl true)) []) (hl : ns.length ≤ sizeLine)
    (hT : ∀ k q P, lamNames[k]? = some q → G (1000 + k) = P + 1 → H P = some (.tbl #[])) (hS : SqL K H a (ns.map V.int)) (hH : ∀ b, H b = none ∨ H b = some (.tbl #[]) ∨ ∃ o l, H b = some (.frz o (.lst l))) :
    spM w K G 1 F [.ref a] H (fun v _ => v = .bl true) fun _ _ _ => False := by
  refine ⟨rfl, ⟨H, fun b => b = a ∧ ∃ o l, H a = some (.frz o (.lst l)), fun _ => False, fun _ => 0, []⟩, [.p (.lsf (ns.map .int))], rfl, ⟨fun _ _ h => h, fun _ h => h.elim, fun b hb => ?_, fun n o h => by simp at h, fun n o h => by simp at h, fun n m o o' h => by simp at h, fun k q P e1 e2 => ?_⟩, ⟨_, _, rfl, ?_, rfl⟩, ?_⟩
  · obtain ⟨rfl, o, l, e⟩ := hb
    show H b ≠ none
    rw [e]
    exact fun z => nomatch z
  · have e := hT k q P e1 e2
    refine ⟨fun z => ?_, fun z => z, #[], e, ?_, fun pos cv z => ?_⟩
    · obtain ⟨rfl, o, l, e3⟩ := z
      rw [e] at e3
      cases e3
    · first | trivial | exact TriplesOk.nil | exact (by decide) | simp [TriplesOk]
    · first | (cases z; done) | simp [codeAmong] at z
  · show RelP _ _ _ _ _ _ _
    rw [RelP]
    refine ⟨a, _, rfl, ?_, by rw [List.length_map]; exact hl, rel_intsG ns⟩
    rcases hS with hS | hS
    · refine .inl ⟨⟨rfl, ?_⟩, hS⟩
      rcases hS with e | ⟨o, e⟩
      · rcases hH a with q | q | ⟨o, l, q⟩
        · rw [e] at q; cases q
        · rw [e] at q; cases q
        · exact ⟨o, l, q⟩
      · exact ⟨o, _, e⟩
    · exact .inr hS
  · show GQ w K G _ _ (F _ []) _
    rw [h]
    intro vw' l ok es v r
    exact relBl.mp (show RelP w K G vw'.H vw'.Z (.bl true) v from r)
end Ev
end S_X23
section S_X24
open PySem PySem.Spec PyProof.Rows L2 PySem.W
namespace Ev
/-! ### what the head tells of own exception classes -/
abbrev FnC : Type := Option (Str × Str × Arguments × FuncBody × Scope × Addr × List Str × Addr)
def fnC (K : Frag) (p : He.Defn) : FnC := match K.lookup (He.fAd K p) with
  | some ⟨_, _, .func fd, _⟩ => some (fd.name, fd.qualname, fd.params, fd.body, fd.scope, fd.globals, fd.closure.map (·.1), fd.builtins)
  | _ => none
def valC (d : He.DefD) : FnC := some (d.name, d.qual, d.params, .stmts d.body, d.scope, mainGlobals, ["__class__"], builtinsNs)
def oexB (K : Frag) (C : Addr) : Bool := (match K.lookup C with
  | some ⟨.type t, _, .cls cd, sl⟩ => decide (t = "type") && ((match cd.mro with
    | .ref C' :: bm => decide (C' = C) && PySem.HandSPX.refsVE bm
    | _ => false) && (cd.hasDict && (!cd.hasDel && (match sl.toList with
    | [_, _, _, _, some (.builtin n), _] => decide (n = "ValueError.__new__")
    | _ => false))))
  | _ => false) && (decide (findIn K (.ref C) "__setattr__" = some (some (.builtin "object.__setattr__"))) && (decide (subIn K (.ref C) (.type "BaseException") = some true) && (decide (typeIn K (.ref C) = some (.type "type")) && keepIn K (.ref C))))
theorem band {a b : Bool} (h : (a && b) = true) : a = true ∧ b = true := Bool.and_eq_true_iff.mp h
theorem oexB_ok {K : Frag} {C : Addr} (h : oexB K C = true) : OexC K C := by
  obtain ⟨h1, h⟩ := band h
  obtain ⟨h2, h⟩ := band h
  obtain ⟨h3, h⟩ := band h
  obtain ⟨h4, h5⟩ := band h
  refine ⟨?_, of_decide_eq_true h2, of_decide_eq_true h3, of_decide_eq_true h4, h5⟩
  split at h1
  · rename_i t od cd sl lk
    obtain ⟨a1, h1⟩ := band h1
    obtain ⟨a2, h1⟩ := band h1
    obtain ⟨a3, h1⟩ := band h1
    obtain ⟨a4, a5⟩ := band h1
    split at a2
    · rename_i C' bm em
      obtain ⟨b1, b2⟩ := band a2
      split at a5
      · rename_i k0 k1 k2 k3 n k5 es
        obtain ⟨cn, cb, cm, cns, cq, chd, csn, csu, cab, cco, chl⟩ := cd
        have e1 := of_decide_eq_true a1
        have e2 := of_decide_eq_true b1
        have e3 := of_decide_eq_true a5
        dsimp only at em a3 a4
        subst em e1 e2 e3 a3
        have e4 : chl = false := by simpa using a4
        subst e4
        refine ⟨cn, cq, cns, cb, bm, csn, csu, cab, cco, od, k0, k1, k2, k3, k5, ?_, b2⟩
        rw [lk]
        have e5 : sl = #[k0, k1, k2, k3, some (.builtin "ValueError.__new__"), k5] := by
          apply Array.ext'
          rw [es]
        rw [e5]
      · cases a5
    · cases a2
  · cases h1
/-- the class x's __init__ calls super().__init__(text), then stores fs -/
def supB (P : Program) (K : Frag) (x : Str) (q : Str) (fs : List Str) : Bool :=
  let C := He.ga K x
  let f := He.fAd K (x, some ("__init__" : Str))
  (match K.lookup f with
  | some ⟨_, _, .func fd, _⟩ => (match fd.code, fd.closure, fd.defaults with
    | .ref cda, [(_, cc)], .none => codeIn K fd.code q && ((match K.lookup cc with
      | some ⟨_, _, .cell (some (.ref C')), _⟩ => decide (C' = C)
      | _ => false) && (match K.lookup cda with
      | some ⟨_, _, .fields vs, _⟩ => (match (vs[2]? : Option Value) with
        | some (.str file _) => ((P.main.file : Str) == file)
        | _ => false)
      | _ => false))
    | _, _, _ => false)
  | _ => false) && (oexB K C && (decide (findIn K (.ref C) "__init__" = some (some (.ref f))) && (decide (typeIn K (.ref f) = some (.type "function")) && (decide (nsIn K mainGlobals "super" = some none) && (decide (nsIn K cStatics "thirdparty.any" = some none) &&
    (decide (ks_superIn K C C "__init__" = some (some (.builtin viE))) && (decide (subIn K (.ref C) (.type "ValueError") = some true) && (decide (mroIn K C (.ref C) = some true) && fs.all fun y => decide (findIn K (.ref C) y = some none)))))))))
/-- what the text says -/
def SupT (P : Program) (d : He.DefD) (fs : List Str) : Prop :=
  d.name = "__init__" ∧ (P.main.scope.names.lookup ("super" : Str)).isSome = false ∧ ∃ (x0 : AS) (xs : List AS) (self : Str) (p0 p1 p2 p3 p4 p5 : Pos) (j : Nat) (z : Str) (ar : Arg) (pl : Sem Bool),
    SupS d.scope (self :: (x0 :: xs).map (·.v)) ∧ d.body = supS p0 p1 p2 p3 p4 p5 j z :: (x0 :: xs).map (asgS self) ∧ (d.params.posonlyargs ++ d.params.args).head? = some ar ∧ ar.arg = self ∧
    (self == ("__debug__" : Str)) = false ∧ (∀ L f cda cc, SupEv d.qual d.scope L f cda cc p0 p1 p2 p3 p4 j z pl) ∧ (self :: (x0 :: xs).map (·.v)).Nodup ∧
    (∀ (kV doc pm : Value) (an : Option Addr) (cdv ct : Value) (cc : Addr) (us : List Value), us.length = xs.length + 2 → bindArgs (ksFn "__init__" d.qual d.params d.body d.scope .none kV doc pm an cdv ct cc) ⟨us, []⟩ = pure ((self :: (x0 :: xs).map (·.v)).zip us)) ∧
    (∀ x ∈ x0 :: xs, (x.v == ("__debug__" : Str)) = false) ∧ xs.length ≤ 900 ∧ (x0 :: xs).map (·.fld) = fs ∧ fs.Nodup
theorem supC_of {P : Program} {K : Frag} {d : He.DefD} {x : Str} {fs : List Str} (hat : d.at_ = (x, some ("__init__" : Str))) (e : fnC K d.at_ = valC d) (h : supB P K x d.qual fs = true) (T : SupT P d fs) : SupC P K (He.ga K x) fs := by
  obtain ⟨hn, htop, x0, xs, self, p0, p1, p2, p3, p4, p5, j, z, ar, pl, t1, t2, t3, t4, t5, t6, t7, t8, t9, t10, t11, t12⟩ := T
  unfold supB at h
  dsimp only at h
  obtain ⟨h0, h⟩ := band h
  obtain ⟨h1, h⟩ := band h
  obtain ⟨h2, h⟩ := band h
  obtain ⟨h3, h⟩ := band h
  obtain ⟨h4, h⟩ := band h
  obtain ⟨h5, h⟩ := band h
  obtain ⟨h6, h⟩ := band h
  obtain ⟨h7, h⟩ := band h
  obtain ⟨h8, h9⟩ := band h
  have O := oexB_ok h1
  rw [hat] at e
  unfold fnC at e
  cases lk : K.lookup (He.fAd K (x, some ("__init__" : Str))) with
  | none => rw [lk] at h0; cases h0
  | some o =>
    obtain ⟨oc, od, dt, osl⟩ := o
    rw [lk] at h0 e
    cases dt with
    | func fd =>
      obtain ⟨n1, n2, n3, n4, n5, n6, n7, n8, n9, n10, n11, n12, n13, n14, n15⟩ := fd
      dsimp only at h0 e
      unfold valC at e
      simp only [Option.some.injEq, Prod.mk.injEq] at e
      obtain ⟨e1, e2, e3, e4, e5, e6, e7, e8⟩ := e
      obtain ⟨cda, y, cc, rfl, rfl, rfl, h0⟩ : ∃ cda y cc, n13 = Value.ref cda ∧ n7 = [(y, cc)] ∧ n8 = Value.none ∧ (codeIn K (.ref cda) d.qual && ((match K.lookup cc with
          | some ⟨_, _, .cell (some (.ref C')), _⟩ => decide (C' = He.ga K x)
          | _ => false) && (match K.lookup cda with
          | some ⟨_, _, .fields vs, _⟩ => (match (vs[2]? : Option Value) with
            | some (.str file _) => ((P.main.file : Str) == file)
            | _ => false)
          | _ => false))) = true := by
        cases n13 with
        | ref cda =>
          cases n7 with
          | nil => cases h0
          | cons c l =>
            cases l with
            | nil =>
              cases n8 with
              | none => exact ⟨cda, c.1, c.2, rfl, rfl, rfl, h0⟩
              | _ => cases h0
            | cons _ _ => cases h0
        | _ => cases h0
      obtain ⟨a1, h0⟩ := band h0
      obtain ⟨a2, a3⟩ := band h0
      have ey : y = "__class__" := by simpa using e7
      subst ey e1 e2 e3 e4 e5 e6 e8
      rw [hn] at lk
      refine ⟨⟨He.fAd K (x, some ("__init__" : Str)), cc, cda, _, d.qual, d.params, d.body, d.scope, x0, xs, self, p0, p1, p2, p3, p4, p5, j, z, ar, pl, ⟨O, ⟨oc, od, .none, n9, n10, n11, n12, n14, osl, rfl, lk⟩, a1, ?_, ?_, of_decide_eq_true h2, of_decide_eq_true h3, of_decide_eq_true h4, of_decide_eq_true h5, of_decide_eq_true h6, of_decide_eq_true h7, of_decide_eq_true h8, htop⟩, t1, t2, t3, t4, t5, fun L => t6 L _ _ _, t7, fun s us hl => .of_eq (t8 _ _ _ _ _ _ _ us hl), fun y hy => ⟨of_decide_eq_true (List.all_eq_true.mp h9 y.fld (by rw [← t11]; exact List.mem_map_of_mem hy)), t9 y hy⟩, t10, t11, t12⟩, O.kC⟩
      · split at a2
        · rename_i cl cld C' csl lk2
          have := of_decide_eq_true a2
          subst this
          exact ⟨_, _, _, lk2⟩
        · cases a2
      · split at a3
        · rename_i ccl cdd vs ccs lk2
          split at a3
          · rename_i file tf ev
            exact ⟨_, _, vs, _, file, tf, lk2, ev, a3⟩
          · cases a3
        · cases a3
    | _ => cases h0
end Ev
end S_X24
section S_X25
open PySem PySem.Spec PyProof.Rows L2 PySem.W
namespace Ev
/-! ### the head's hook: defs, own exceptions' __init__, tables, one Bool -/
abbrev AlQ : Type := He.AlD × List FnC × Bool
def asQ (g : Addr → Option Obj) (n : Nat) : List Addr := cStatics :: He.asD g n
def obsQ (n : Nat) (fa : List He.Fa) (fn fx : List He.DefD) (tf : List He.Defn) (ex : Frag → Bool) (g : Addr → Option Obj) : AlQ :=
  (He.obsD fa fn (He.frT g (asQ g n)), fx.map (fun d => fnC (He.frT g (asQ g n)) d.at_), ex (He.frT g (asQ g n)) && He.tabsB g tf (He.frT g (asQ g n)))
def valQ (fn fx : List He.DefD) : AlQ := (He.valD fn, fx.map valC, true)
structure SaysQ (fa : List He.Fa) (fn fx : List He.DefD) (tf : List He.Defn) (ex : Frag → Bool) (h : Heap) (K : Frag) : Prop where
  d : He.SaysD fa fn K
  x : fx.map (fun d => fnC K d.at_) = fx.map valC
  more : ex K = true
  hd : ∀ p ∈ tf, codeHdIn K (He.cT K p).1 (He.cT K p).2 = true
  out : ∀ p ∈ tf, K.lookup (He.cT K p).2 = none
  empty : ∀ p ∈ tf, h.get? (He.cT K p).2 = some tabO
theorem saysQ_of {n : Nat} {fa : List He.Fa} {fn fx : List He.DefD} {tf : List He.Defn} {ex : Frag → Bool} {h : Heap} (e : obsQ n fa fn fx tf ex h.get? = valQ fn fx) : SaysQ fa fn fx tf ex h (He.frT h.get? (asQ h.get? n)) := by
  have e1 : He.obsD fa fn (He.frT h.get? (asQ h.get? n)) = He.valD fn := congrArg (fun z : AlQ => z.1) e
  have e2 : fx.map (fun d => fnC (He.frT h.get? (asQ h.get? n)) d.at_) = fx.map valC := congrArg (fun z : AlQ => z.2.1) e
  have e3 : (ex (He.frT h.get? (asQ h.get? n)) && He.tabsB h.get? tf (He.frT h.get? (asQ h.get? n))) = true := congrArg (fun z : AlQ => z.2.2) e
  obtain ⟨h1, h2⟩ := band e3
  generalize hK : He.frT h.get? (asQ h.get? n) = K at e1 e2 h1 h2 ⊢
  have key : ∀ p ∈ tf, codeHdIn K (He.cT K p).1 (He.cT K p).2 = true ∧ ∃ o, h.get? (He.cT K p).2 = some o ∧ He.emptyTab o = true := fun p hp => by
    obtain ⟨h3, h4⟩ := band (List.all_eq_true.mp h2 p hp)
    refine ⟨h3, ?_⟩
    cases q : h.get? (He.cT K p).2 with
    | none => rw [q] at h4; cases h4
    | some o => rw [q] at h4; exact ⟨o, rfl, h4⟩
  refine ⟨e1, e2, h1, fun p hp => (key p hp).1, fun p hp => ?_, fun p hp => ?_⟩
  · obtain ⟨_, o, q, z⟩ := key p hp
    rw [← hK] at q ⊢
    exact He.frT_none q z
  · obtain ⟨_, o, q, z⟩ := key p hp
    rw [q, He.emptyTab_eq z]
def hookQ (n : Nat) (fa : List He.Fa) (fn fx : List He.DefD) (tf : List He.Defn) (ex : Frag → Bool) : PySem.W.Hook where
  α := AlQ
  obs := fun s => obsQ n fa fn fx tf ex s.heap.get?
  val := fun _ => valQ fn fx
  says := fun _ h => ∃ K : Frag, K.In h ∧ SaysQ fa fn fx tf ex h K
  of := fun _ _ e => ⟨_, He.frT_in, saysQ_of e⟩
  keeps := fun _ _ _ ⟨K, hK, c⟩ k => ⟨K, Frag.In.keeps hK k, ⟨c.d, c.x, c.more, c.hd, c.out, fun p hp => k _ _ (c.empty p hp)⟩⟩
theorem obsQ_eq {n : Nat} {fa : List He.Fa} {fn fx : List He.DefD} {tf : List He.Defn} {ex : Frag → Bool} {g : Addr → Option Obj} {s : Shared} (h : ∀ a, g a = s.heap.get? a) : obsQ n fa fn fx tf ex g = (hookQ n fa fn fx tf ex).obs s := by
  have e : g = s.heap.get? := funext h
  rw [e] <;> rfl
theorem SaysQ.cls {fa : List He.Fa} {fn fx : List He.DefD} {tf : List He.Defn} {ex : Frag → Bool} {h : Heap} {K : Frag} (c : SaysQ fa fn fx tf ex h K) (i : Nat) {d : He.DefD} (e : fx[i]? = some d := by rfl) : fnC K d.at_ = valC d := by
  have e1 : (fx.map fun d => fnC K d.at_)[i]? = (fx.map valC)[i]? := by rw [c.x]
  rw [List.getElem?_map, List.getElem?_map, e] at e1
  exact Option.some.inj e1
/-! ### what is asked of a class that is told -/
def exkB (K : Frag) (D : Addr) : Bool := L2.xfB K D && (decide (findIn K (.ref D) "__class__" = some (some (.builtin "object.__class__"))) && (decide (specialIn K (.builtin "object.__class__") "__get__" = some (some (.builtin "getset_descriptor.__get__"))) && (decide (takesIn K (.builtin "object.__class__") = some true) && decide (mroIn K D (.type "object") = some true))))
theorem exkB_ok {K : Frag} {D : Addr} (h : exkB K D = true) : ExK K D := by
  obtain ⟨h1, h⟩ := band h
  obtain ⟨h2, h⟩ := band h
  obtain ⟨h3, h⟩ := band h
  obtain ⟨h4, h5⟩ := band h
  exact ⟨L2.xfB_ok h1, of_decide_eq_true h2, of_decide_eq_true h3, of_decide_eq_true h4, of_decide_eq_true h5⟩
/-- all that is asked of the class G c of the classes below n; CS: the base class -/
def infB (K : Frag) (G : Nat → Addr) (c n : Nat) (fs : List Str) (CS : Addr) : Bool := exkB K (G c) && (isCls K G c n && (decide (exmOne K (.ref (G c)) (.ref CS) = some true) && fs.all fun y => decide (findIn K (.ref (G c)) y = some none)))
end Ev
end S_X25
section S_X26
open PySem PySem.Spec PyProof.Rows L2 PySem.W
namespace Ev
theorem gx_low {G : Nat → Addr} {a : Addr} {vs : List V} {i : Nat} (h : i < 2000) : Gx G a vs i = G i := by
  unfold Gx
  rw [if_neg (by omega), if_neg (by omega), if_neg (by omega)]
theorem hu101 {A : Around} {k : Nat} (hr : Room k A) : A.units + 101 < cLine := by have := hr.un; omega
theorem lawQ : (("law" : Str) ++ ".<locals>.") ++ "<lambda>" = ("law.<locals>.<lambda>" : Str) := by decide +kernel
theorem infB_no {K : Frag} {G : Nat → Addr} {c n : Nat} {fs : List Str} {CS : Addr} (h : infB K G c n fs CS = true) : ∀ g ∈ fs, findIn K (.ref (G c)) g = some none := fun g hg => of_decide_eq_true (List.all_eq_true.mp (band (band (band h).2).2).2 g hg)
theorem infB_ex {K : Frag} {G : Nat → Addr} {c n : Nat} {fs : List Str} {CS : Addr} (h : infB K G c n fs CS = true) : exmOne K (.ref (G c)) (.ref CS) = some true := of_decide_eq_true (band (band (band h).2).2).1
theorem lawC_hu {G : Nat → Addr} {P : Addr} {q : Str} (h0 : lamNames[0]? = some q) (h1 : G 1001 = 0) (h2 : G 1002 = 0) (h3 : G 1003 = 0) : ∀ k' q', lamNames[k']? = some q' → G (1000 + k') = P + 1 → q' = q := fun k' q' e g => by
  have hk : k' < 4 := (List.getElem?_eq_some_iff.mp e).1
  have : k' = 0 ∨ k' = 1 ∨ k' = 2 ∨ k' = 3 := by omega
  rcases this with rfl | rfl | rfl | rfl
  · exact Option.some.inj (e.symm.trans h0)
  · exact absurd (h1.symm.trans g) (fun z => Nat.succ_ne_zero P z.symm)
  · exact absurd (h2.symm.trans g) (fun z => Nat.succ_ne_zero P z.symm)
  · exact absurd (h3.symm.trans g) (fun z => Nat.succ_ne_zero P z.symm)
end Ev
end S_X26
section S_X27
open PySem PySem.Spec PyProof.Rows L2
namespace Ev
/-! ### == by an own __eq__ -/
/-- the right side: an instance of the class c too, or a tuple -/
def eqT (c : Nat) : TC → Bool
  | .cls c' => decide (c' = c)
  | .ty n => decide (n = "tuple")
def pEqI (c : Nat) (F : MF) : Sto → VV → VV → Option PV := fun st x y => match tyOfV st x, tyOfV st y with
  | some (.cls c1), some t => if c1 = c ∧ eqT c t = true then (match F [x, y] st with
    | .ok (.p (.bl b)) _ => some (.bl b)
    | _ => none) else none
  | _, _ => none
theorem cls_rel {w : World} {K : PySem.W.Frag} {G : Nat → Addr} {vw : Vw} {z : VV} {v : V} {c : Nat} (ok : VOk w K G vw) (h : tyOfV vw.st z = some (.cls c)) (r : RelVV w K G vw z v) : ∃ a dx fs, v = .ref a ∧ vw.H a = some (.ins (G c) dx fs) := by
  cases z with
  | p x =>
    cases x <;> try (cases h; done)
    rename_i c' fs us
    cases h
    rw [show RelVV w K G vw (.p (.ins c fs us)) v = RelP w K G vw.H vw.Z (.ins c fs us) v from rfl, RelP] at r
    obtain ⟨a, dx, vs, e, _, h1, _⟩ := r
    exact ⟨a, dx, _, e, h1⟩
  | ref n =>
    have h : tyRef vw.st n = some (.cls c) := h
    unfold tyRef at h
    split at h <;> try (cases h; done)
    rename_i c' fs us eo
    cases h
    obtain ⟨dx, vs, h1, _⟩ := ok.ob n _ eo
    exact ⟨_, dx, _, r.2, h1⟩
section
variable {X : Cx} {G : Nat → Addr} {f : Addr} {fd : FuncData} {ps : List Str} {k c : Nat}
theorem opx_eqI {F : List PV → PR} (hF : FnOk X.prog X.w X.K X.mg X.base (L2.CX X.prog X.w) k f fd ps (spM X.w X.K G 2 (liftP F))) (hr : Room k X.A) (hb : Binds X.K fd ps []) (hs : PySem.W.findIn X.K (.ref (G c)) "__eq__" = some (some (.ref f))) (hf : PySem.W.isFn X.K (.ref f) = true)
    (hi : InsOk X.K (G c)) (hn : PySem.W.notFirst X.K (G c) (.type "tuple") = true) : OpR X (compareOp .Eq) (q2s X.w X.K G (pEqI c (liftP F))) := by
  rintro pins s σ H x y v u Q I rx ry ⟨vw, a, b, z, rfl, ok, ra, rb, e, q⟩
  unfold pEqI at e
  split at e
  · rename_i c1 t h1 h2
    split at e
    · rename_i hc
      obtain ⟨rfl, ht⟩ := hc
      obtain ⟨p, dx, fs, rfl, hp⟩ := cls_rel ok h1 ra
      obtain rfl : v = Value.ref p := rx
      obtain ⟨mA, J, _⟩ := ins_get I.hok hp
      obtain ⟨od, J, _⟩ := J.look
      -- the type of the right side
      have key : ∃ tb : Value, PySem.W.Looks (model X.prog X.w) s.heap (typeOf u) tb ∧ PySem.W.notFirst X.K (G c1) tb = true := by
        cases t with
        | cls c2 =>
          obtain rfl : c2 = c1 := of_decide_eq_true ht
          obtain ⟨p2, dx2, fs2, rfl, hp2⟩ := cls_rel ok h2 rb
          obtain rfl : u = Value.ref p2 := ry
          obtain ⟨mB, J2, _⟩ := ins_get I.hok hp2
          obtain ⟨od2, J2, _⟩ := J2.look
          exact ⟨_, J2.type, by simp [PySem.W.notFirst]⟩
        | ty n =>
          obtain rfl : n = "tuple" := of_decide_eq_true ht
          cases b with
          | ref m =>
            have h2 : tyRef vw.st m = some (.ty "tuple") := h2
            unfold tyRef at h2
            split at h2 <;> first | (cases h2; done) | (simp at h2)
          | p xb =>
            cases xb <;> first | (cases h2; done) | (simp [tyOfV] at h2; done) | skip
            rename_i xs
            obtain ⟨p2, vs2, rfl, h3, _⟩ := relTup.mp (show RelP X.w X.K G vw.H vw.Z (.tup xs) y from rb)
            obtain rfl : u = Value.ref p2 := ry
            obtain ⟨its, rvs, ⟨o, h4, h5, n, h6⟩, _⟩ := I.tuple h3
            exact ⟨_, PySem.W.kitx_tuple.ty _ _ I.kIn ⟨o, h4, h5⟩, hn⟩
      obtain ⟨tb, lt, hn2⟩ := key
      obtain ⟨m, hFr⟩ := I.fr
      show wpAny (model X.prog X.w) X.A (richCompare .Eq (.ref p) u) (EP X pins σ Q) X.xe s
      refine PySem.W.cmp_K (op := .Eq) (tb := tb) hr.units0 hFr I.ok.mod.kin J lt hn2 hs hf ?_
      -- the call
      have hq : ∃ r, liftP F [a, b] vw.st = .ok (.p (.bl r)) vw.st ∧ z = .bl r := by
        unfold liftP at e ⊢
        cases hp : toPs [a, b] with
        | none => rw [hp] at e; cases e
        | some zs =>
          rw [hp] at e
          dsimp only at e ⊢
          cases hz : F zs with
          | ok w0 =>
            rw [hz] at e
            cases w0 <;> try (cases e; done)
            rename_i r
            cases e
            exact ⟨r, rfl, rfl⟩
          | ex c0 us0 => rw [hz] at e; cases e
          | no => rw [hz] at e; cases e
      obtain ⟨r, er, rfl⟩ := hq
      have hsp : spM X.w X.K G 2 (liftP F) [.ref p, y] vw.H (fun v' H' => v' = .bl r ∧ Q (.bl r) H') (fun _ _ _ => False) := by
        refine ⟨rfl, vw, [a, b], rfl, ok, ⟨_, _, rfl, ra, _, _, rfl, rb, rfl⟩, ?_⟩
        rw [er]
        intro vw' l o es v' rv'
        have ev : v' = .bl r := relBl.mp (show RelP X.w X.K G vw'.H vw'.Z (.bl r) v' from rv')
        exact ⟨ev, q vw' (.bl r) l o es (by rw [RelP])⟩
      have r2 : Vals [V.ref p, y] [Value.ref p, u] := .cons rfl (.cons ry .nil)
      have hl := hF.len _ _ _ _ hsp
      have bb := hb s [.ref p, u] I.kIn (by simpa using hl)
      rw [List.append_nil] at bb
      refine wpAny_call (codeAny_mono (hF.run X.A X.stack s vw.H ⟨[.ref p, u], []⟩ [.ref p, u] [.ref p, y] _ _ hr I.env0 bb r2 hsp) fun r0 s' hq => ?_)
      cases r0 with
      | error e0 =>
        obtain ⟨_, _, _, _, _, _, _, _, _, _, _, _, _, z⟩ := hq
      | ok fl =>
        cases fl with
        | ret w0 =>
          obtain ⟨v', H', I', rv', ev', hQ⟩ := I.after hq
          subst ev'
          obtain rfl : w0 = Value.bool r := rv'
          exact ⟨.bl r, H', I', rfl, hQ⟩
        | next => exact False.elim hq
        | brk => exact False.elim hq
        | cont => exact False.elim hq
    · cases e
  · cases e
end
end Ev
end S_X27
section S_X28
open PySem PySem.Spec PyProof.Rows L2 PySem.W
namespace Ev
/-! ### isinstance with one own class -/
def tyNames : List String := ["NoneType", "bool", "int", "str", "tuple", "list", "dict"]
def isOw (c : Nat) : TC → TC → Option Bool
  | .cls c1, .cls c2 => if c1 = c ∧ c2 = c then some true else none
  | .ty a, .cls c2 => if c2 = c ∧ a ∈ tyNames then some false else none
  | .cls _, .ty _ => none
  | .ty a, .ty b => isB (.ty a) (.ty b)
def insB (K : Frag) (C : Addr) : Bool := decide (findIn K (.ref C) "__class__" = some (some (.builtin "object.__class__"))) && (decide (specialIn K (.builtin "object.__class__") "__get__" = some (some (.builtin "getset_descriptor.__get__"))) && (decide (takesIn K (.builtin "object.__class__") = some true) && decide (mroIn K C (.type "object") = some true)))
theorem insB_ok {K : Frag} {C : Addr} (hc : Cls K C) (h : insB K C = true) : InsOk K C := by
  obtain ⟨h2, h⟩ := band h
  obtain ⟨h3, h⟩ := band h
  obtain ⟨h4, h5⟩ := band h
  exact ⟨hc, of_decide_eq_true h2, of_decide_eq_true h3, of_decide_eq_true h4, of_decide_eq_true h5⟩
def isOwB (K : Frag) (C : Addr) : Bool := insB K C && ((tyNames.all fun n => kitOne K (.type n) (.ref C) == some false) && (kitOne K (.ref C) (.ref C) == some true))
theorem isOw_ok {K : Frag} {G : Nat → Addr} {c : Nat} (hc : Cls K (G c)) (h : isOwB K (G c) = true) : IsT K G (isOw c) where
  one := fun t u b e => by
    obtain ⟨h1, h⟩ := band h
    obtain ⟨h2, h3⟩ := band h
    cases t with
    | cls c1 =>
      cases u with
      | cls c2 =>
        have e : (if c1 = c ∧ c2 = c then some true else none) = some b := e
        split at e
        · rename_i q
          cases e
          obtain ⟨rfl, rfl⟩ := q
          exact eq_of_beq h3
        · cases e
      | ty n => cases e
    | ty a =>
      cases u with
      | cls c2 =>
        have e : (if c2 = c ∧ a ∈ tyNames then some false else none) = some b := e
        split at e
        · rename_i q
          cases e
          obtain ⟨rfl, q⟩ := q
          exact eq_of_beq (List.all_eq_true.mp h2 a q)
        · cases e
      | ty n => exact (isB_ok (K := K) (G := G)).one _ _ _ e
  ins := fun c1 u b e => by
    cases u with
    | cls c2 =>
      have e : (if c1 = c ∧ c2 = c then some true else none) = some b := e
      split at e
      · rename_i q
        rw [q.1]
        exact insB_ok hc (band h).1
      · cases e
    | ty n => cases e
/-- what is asked for the class's own == -/
def eqB (K : Frag) (C : Addr) : Bool := insB K C && notFirst K C (.type "tuple")
end Ev
end S_X28
section S_X29
open PySem PySem.Spec PyProof.Rows L2 HotX
namespace Ev
/-! ### a lambda with parameters -/
/-- the body's context: the maker's names, then the parameters -/
def lamCxP (X : Cx) (A : Around) (outer : List Env) (s : Shared) (H : Hp) (E : XK) (scope : Scope) (f c' : Addr) (ps : List Str) : Cx := { LamX.lamCx X A outer s H E scope f c' with N := X.N ++ ps }
theorem look_zip {ps : List Str} {us : List Value} (hn : ps.Nodup) : ∀ {i : Nat} {y : Str} {u : Value}, ps[i]? = some y → us[i]? = some u → (ps.zip us).reverse.lookup y = some u := by
  intro i y u h1 h2
  have hm : (y, u) ∈ ps.zip us := by
    have e : (ps.zip us)[i]? = some (y, u) := by rw [List.getElem?_zip_eq_some]; exact ⟨h1, h2⟩
    exact List.mem_of_getElem? e
  have key : ∀ l : List (Str × Value), (∀ a b b', (a, b) ∈ l → (a, b') ∈ l → b = b') → (y, u) ∈ l → l.lookup y = some u := fun l => by
    induction l with
    | nil => intro _ h; cases h
    | cons p l ih =>
      obtain ⟨a, b⟩ := p
      intro hu hm
      rw [List.lookup_cons]
      cases e : (y == a) with
      | true =>
        obtain rfl := beq_iff_eq.mp e
        rw [hu y b u List.mem_cons_self hm]
      | false =>
        refine ih (fun a b b' h h' => hu a b b' (List.mem_cons_of_mem _ h) (List.mem_cons_of_mem _ h')) ?_
        rcases List.mem_cons.mp hm with q | q
        · cases q
          simp at e
        · exact q
  refine key _ (fun a b b' h h' => ?_) (List.mem_reverse.mpr hm)
  have h := List.mem_reverse.mp h
  have h' := List.mem_reverse.mp h'
  obtain ⟨j, hj⟩ := List.getElem?_of_mem h
  obtain ⟨j', hj'⟩ := List.getElem?_of_mem h'
  rw [List.getElem?_zip_eq_some] at hj hj'
  have : j = j' := by
    obtain ⟨q1, q2⟩ := List.getElem?_eq_some_iff.mp hj.1
    obtain ⟨q3, q4⟩ := List.getElem?_eq_some_iff.mp hj'.1
    have pw := List.pairwise_iff_getElem.mp hn
    rcases Nat.lt_trichotomy j j' with q | q | q
    · exact absurd (q2.trans q4.symm) (pw j j' q1 q3 q)
    · exact q
    · exact absurd (q4.trans q2.symm) (pw j' j q3 q1 q)
  subst this
  exact Option.some.inj (hj.2.symm.trans hj'.2)
section
variable {X : Cx} {pins : List (Addr × Obj)} {σ : L2.St} {H HZ : Hp} {s s1 : Shared}
theorem lam_enterP {A : Around} {outer : List Env} {E : XK} {scope : Scope} {f c' : Addr} {ps : List Str} {us : List Value} {vs : List V} {h₁ : Heap} {tk : Nat} (I : Inv X pins σ H s) (L : LamQ X.env.scope scope X.N) (hn : ps.Nodup) (hloc : ∀ y ∈ ps, scope.names.lookup y = some .local) (r : Vals vs us) (hl : vs.length = ps.length)
    (e0 : Env0 X.prog X.w X.K X.mg X.base A outer s1 HZ) (hd : A.handled = none) (un : Un (frs X.stack) [] H HZ s.heap s1.heap) (hns : h₁.Ns s1.heap.objs.size fun y => (ps.zip us).reverse.lookup y) (kp : ∀ b o, s1.heap.get? b = some o → h₁.get? b = some o) :
    Inv (lamCxP X A outer s1 HZ E scope f c' ps) [] (σ ++ vs.map some) HZ { s1 with heap := h₁, toks := tk } := by
  have J := lam_enter (E := E) (f := f) (c' := c') (tk := tk) I L e0 hd un hns kp
  obtain ⟨⟨j1, j2, j3, j4, j5, j6, j7, j8, j9, j10, j11, j12, j13, j14, j15, j16, j17, j18⟩, hos, hbare, hbase, hlc, hcell, hfree, hfc, hpin, hok, hlen⟩ := J
  refine ⟨⟨j1, j2, j3, j4, j5, j6, j7, j8, j9, j10, j11, j12, j13, j14, j15, j16, j17, j18⟩, hos, hbare, hbase, ?_, hcell, hfree, hfc, hpin, hok, ?_⟩
  · obtain ⟨m, hm, hlk⟩ := hlc
    have eN : ∀ y, m y = (ps.zip us).reverse.lookup y := fun y => hm.agree hns y
    refine ⟨m, hm, fun i y v q1 q2 q3 => ?_⟩
    have hNl : σ.length = X.N.length := I.len
    by_cases hi : i < X.N.length
    · have q1' : X.N[i]? = some y := by
        have : (X.N ++ ps)[i]? = some y := q1
        rwa [List.getElem?_append_left hi] at this
      rw [List.getElem?_append_left (by omega)] at q2
      exact hlk i y v q1' q2 q3
    · have q1' : ps[i - X.N.length]? = some y := by
        have : (X.N ++ ps)[i]? = some y := q1
        rwa [List.getElem?_append_right (by omega)] at this
      rw [List.getElem?_append_right (by omega), List.getElem?_map, hNl] at q2
      have hy := List.mem_of_getElem? q1'
      cases hv : vs[i - X.N.length]? with
      | none => rw [hv] at q2; cases q2
      | some v0 =>
        rw [hv] at q2
        cases q2
        obtain ⟨u, hu, ru⟩ := r.get hv
        refine ⟨u, ru, .inl ⟨hloc y hy, ?_⟩⟩
        rw [eN]
        exact look_zip hn q1' hu
  · show (σ ++ vs.map some).length = (X.N ++ ps).length
    rw [List.length_append, List.length_append, List.length_map, I.len, hl]
theorem lam_callP {A : Around} {outer : List Env} {E : XK} {q : Str} {params : Arguments} {body : Expr} {scope : Scope} {f c' : Addr} {dV doc pm ctv : Value} {ps : List Str} {us : List Value} {vs : List V} {k : Nat} {tb : TE} {Q : VK} (I : Inv X pins σ H s) (L : LamQ X.env.scope scope X.N) (hq : X.env.qual ++ "<lambda>" = q)
    (hf : s1.heap.get? f = some (PySem.W.kdv_obj "<lambda>" q params (.expr body) scope (cloFrom X.env.cells scope.names []) dV doc pm c' ctv)) (hc : ∃ oc, HZ c' = some (.frz oc (LamX.CodeO c' q))) (hn : ps.Nodup) (hloc : ∀ y ∈ ps, scope.names.lookup y = some .local) (r : Vals vs us) (hl : vs.length = ps.length)
    (hb : BindsTo s1 (PySem.W.kdv_fn "<lambda>" q params (.expr body) scope (cloFrom X.env.cells scope.names []) dV doc pm (.ref c') ctv) ⟨us, []⟩ (ps.zip us))
    (e0 : Env0 X.prog X.w X.K X.mg X.base A outer s1 HZ) (hr : Room (k + 1) A) (un : Un (frs X.stack) [] H HZ s.heap s1.heap)
    (hbody : Room k (A.deeper (LamX.lamEnv X scope s1.heap.objs.size f c')) → PE (lamCxP X A outer s1 HZ E scope f c' ps) body tb) (ht : tb (σ ++ vs.map some) HZ Q) :
    codeAny (model X.prog X.w) A (.call (.ref f) ⟨us, []⟩) (CR (L2.CX X.prog X.w) outer X.prog X.w HZ s1 Q E) s1 := by
  obtain ⟨oc, hco⟩ := hc
  have hco2 : ObjOk X.prog X.w HZ s1.heap c' (.frz oc (LamX.CodeO c' q)) := e0.hok c' _ hco
  obtain ⟨hget, hcode⟩ := hco2
  obtain ⟨⟨o2, fv, t, ho2, hd2, hv2⟩, _, _⟩ := hcode
  have nol : s1.heap.NoLimit := e0.mod.nolimit.keeps fun b o z => (e0.bs b o z).1
  refine PySem.W.kla_callFunE hr.depth hf rfl L.co L.gen rfl ⟨c', o2, fv, t, rfl, ho2, hd2, hv2⟩ (hb _ _ _ _ ?_)
  refine wpAny_newFunctionEnv L.nocell (fun y hy => hloc y.1 (List.of_mem_zip hy).1) (fun h₁ hns hsb => ⟨nol.fresh _ hsb, ?_⟩) L.kind
  subst hq
  show codeAny _ _ (.expr body (LamX.lamEnv X scope s1.heap.objs.size f c')) _ _
  have kp : ∀ b o, s1.heap.get? b = some o → h₁.get? b = some o := fun b o z => hsb.extBut b o (Nat.ne_of_lt (Heap.lt_size z)) (Heap.get?_push_of_some _ z)
  have J := lam_enterP (E := E) (f := f) (c' := c') (tk := s1.toks + (ps.zip us).length) I L hn hloc r hl e0 hr.hd un hns kp
  refine PySem.W.kla_codeExpr (wpAny_mono ((hbody (hr.deeper _)).run [] _ _ HZ Q J ht) (fun v s' hv => ?_) fun e s' he => he)
  obtain ⟨w', H', J', rv, z⟩ := hv
  exact ⟨w', H', J'.os, J'.bare, J'.base, J'.hok, rv, z⟩
end
end Ev
end S_X29
section S_X30
open PySem PySem.Spec PyProof.Rows L2 HotX
namespace Ev
/-! ### a lambda kept in a name, and handed on -/
section
variable {X : Cx} {G : Nat → Addr} {pins : List (Addr × Obj)} {σ : L2.St} {H H0 : Hp} {s s0 : Shared} {vw : Vw}
/-- an object that is newer than the state s0, untracked so far, is tracked for good -/
theorem Inv_track {f : Addr} {o : Obj} (I0 : Inv X pins σ H0 s0) (I : Inv X pins σ H s) (hf : s.heap.get? f = some o) (hn : H f = none) (h0 : s0.heap.objs.size ≤ f) : Inv X pins σ (upd H f (.frz o (.ext fun _ => True))) s := by
  have hlt : ∀ {b : Addr} {ob : Obj}, s0.heap.get? b = some ob → b ≠ f := fun e z => by
    rw [z] at e
    exact Nat.lt_irrefl _ (Nat.lt_of_lt_of_le (Heap.lt_size e) h0)
  have hne : ∀ {b : Addr} {u : HO}, H b = some u → b ≠ f := fun e z => by rw [z, hn] at e; cases e
  obtain ⟨ok, os, bare, base, loc, cell, free, freeC, pin, hok, len⟩ := I
  refine ⟨ok, os, bare, ?_, loc, cell, ?_, fun x c e => ?_, fun p hp => ?_, fun b u e => ?_, len⟩
  · exact {
      keep := base.keep
      slot := base.slot
      free := fun b ob e n hx => by
        rw [upd_ne (fun z => ?_)]
        · exact base.free b ob e n hx
        · have h1 := I0.sz
          rw [z] at e
          exact Nat.lt_irrefl _ (Nat.lt_of_lt_of_le (Nat.lt_of_lt_of_le (Heap.lt_size e) h1) h0)
      there := base.there
      tups := fun b xs e => by rw [upd_ne (hne (base.tups b xs e))]; exact base.tups b xs e
      frzs := fun b ob u e => by rw [upd_ne (hne (base.frzs b ob u e))]; exact base.frzs b ob u e
      tbls := fun b ps e => by
        obtain ⟨more, q⟩ := base.tbls b ps e
        exact ⟨more, by rw [upd_ne (hne q)]; exact q⟩ }
  · rw [upd_ne (fun z => ?_)]
    · exact free
    · have h1 := I0.lt
      rw [z] at h1
      exact Nat.lt_irrefl _ (Nat.lt_of_lt_of_le h1 h0)
  · rw [upd_ne (fun z => ?_)]
    · exact freeC x c e
    · obtain ⟨v, oc, q, _⟩ := I0.cell x c e
      exact hlt q z
  · obtain ⟨a, b, c⟩ := pin p hp
    refine ⟨a, ?_, c⟩
    rw [upd_ne (hlt (I0.pin p hp).1)]
    exact b
  · by_cases hb : b = f
    · subst hb
      rw [upd_same] at e
      cases e
      exact ⟨hf, trivial, ⟨o, hf⟩, fun _ _ _ _ => trivial⟩
    · rw [upd_ne hb] at e
      exact (hok b u e).stay (fun c v _ z => z) (fun c z => by rw [upd_ne (hne z)]; exact z) (fun c xs z => by rw [upd_ne (hne z)]; exact z)
/-- a lambda's parameters: no defaults -/
structure LamPP (env : Env) (params : Arguments) (body : Expr) (scope : Scope) (ps : List Str) : Prop where
  hdef : defaultsOf params env = ([], [])
  hloc : ∀ y ∈ ps, scope.names.lookup y = some .local
  nd : ps.Nodup
  hb : ∀ (q : Str) (cl : List (Str × Addr)) (doc pm cv ctv : Value) (us : List Value), us.length = ps.length → bindArgs (PySem.W.kdv_fn "<lambda>" q params (.expr body) scope cl .none doc pm cv ctv) ⟨us, []⟩ = pure (ps.zip us)
/-- the lambda's function stands at f -/
def LamAt (X : Cx) (q : Str) (params : Arguments) (body : Expr) (scope : Scope) (H : Hp) (f : Addr) : Prop :=
  ∃ (c' : Addr) (doc pm ctv : Value) (oc : Obj), H f = some (.frz (PySem.W.kdv_obj "<lambda>" q params (.expr body) scope (cloFrom X.env.cells scope.names []) .none doc pm c' ctv) (.ext fun _ => True)) ∧ H c' = some (.frz oc (LamX.CodeO c' q))
theorem LamAt.le {q : Str} {params : Arguments} {body : Expr} {scope : Scope} {f : Addr} {vw vw1 : Vw} (h : LamAt X q params body scope vw.H f) (l : Le X.K vw vw1) : LamAt X q params body scope vw1.H f := by
  obtain ⟨c', doc, pm, ctv, oc, h1, h2⟩ := h
  exact ⟨c', doc, pm, ctv, oc, l.fz _ _ _ h1, l.fz _ _ _ h2⟩
def tLam (X : Cx) (G : Nat → Addr) (q : Str) (params : Arguments) (body : Expr) (scope : Scope) : TE := fun σ H Q => ∃ vw, vw.H = H ∧ VOk X.w X.K G vw ∧ ∀ vw1 f, Le X.K vw vw1 → VOk X.w X.K G vw1 → vw1.st = vw.st → LamAt X q params body scope vw1.H f → Q (.ref f) vw1.H
theorem pe_lam {k : Nat} {q : Str} {P c : Addr} {params : Arguments} {body : Expr} {scope : Scope} {ps : List Str} {pos : Pos} (L : LamPP X.env params body scope ps) (C : LawC X G k q P c) (LQ : LamQ X.env.scope scope X.N) : PE X (.Lambda params body scope pos) (tLam X G q params body scope) := by
  refine ⟨fun pins s σ H Q I ⟨vw, eH, ok, h⟩ => ?_⟩
  subst eH
  refine PySem.W.kla_eval L.hdef ?_
  rw [C.hq, makeFunction_eq]
  simp only [List.zip_nil_right, List.filterMap_nil, List.isEmpty_nil, if_true, pure_bind]
  refine lam_tail I ok C.hk C.hP C.hu C.TB C.code (LQ.cells I.ok) fun f c' doc pm ctv vw1 s' I1 l ok1 es kp kn hf hn hfr hc hge => ?_
  obtain ⟨oc, hco⟩ := hc
  refine ⟨.ref f, (vw1.grow f (.frz (PySem.W.kdv_obj "<lambda>" q params (.expr body) scope (cloFrom X.env.cells scope.names []) .none doc pm c' ctv) (.ext fun _ => True)) False).H, Inv_track I I1 hf hn hge, rfl, h _ f (l.trans (Le.grow ok1 hn)) (VOk.grow ok1 hn) es ⟨c', doc, pm, ctv, oc, upd_same, ?_⟩⟩
  show upd vw1.H f _ c' = _
  rw [upd_ne (fun z => by rw [z, hn] at hco; cases hco)]
  exact hco
end
end Ev
end S_X30
section S_X31
open PySem PySem.Spec PyProof.Rows L2 HotX
namespace Ev
/-! ### the first place of a row that a lambda does not take -/
def envP (env : EE) : EE := env.map fun x => match x with
  | some (.p x) => some (.p x)
  | _ => none
theorem envP_len (env : EE) : (envP env).length = env.length := by unfold envP; simp
theorem envP_get {env : EE} {i : Nat} {x : VV} (h : (envP env)[i]? = some (some x)) : env[i]? = some (some x) ∧ ∃ z, x = .p z := by
  unfold envP at h
  rw [List.getElem?_map, Option.map_eq_some_iff] at h
  obtain ⟨y, e, h⟩ := h
  rcases y with _ | y
  · cases h
  · cases y with
    | p z => cases h; exact ⟨e, z, rfl⟩
    | ref n => cases h
/-- what the lambda (its body's reading: rb) answers -/
def jOf (rb : RX) (env : EE) (x a : PV) : Option Bool := match rb (env ++ [some (.p x), some (.p a)]) [] with
  | .ok (.p (.bl b)) [] => some b
  | _ => none
theorem jOf_eq {rb : RX} {env : EE} {x a : PV} {b : Bool} (h : jOf rb env x a = some b) : rb (env ++ [some (.p x), some (.p a)]) [] = .ok (.p (.bl b)) [] := by
  unfold jOf at h
  split at h
  · rename_i b' e
    cases h
    exact e
  · cases h
def firstGo (j : PV → PV → Option Bool) (all : List PV) : List PV → Nat → Option PV
  | [], _ => some .non
  | x :: r, k => match j x (.tup (all.take k)) with
    | some true => firstGo j all r (k + 1)
    | some false => some (.int (k : Nat))
    | none => none
def firstW (isT : TC → TC → Option Bool) (j : PV → PV → Option Bool) (z : PV) (lo hi : Int) : Option PV := match bIsi isT [.p z, .p (.ty "tuple")] [] with
  | .ok (.p (.bl true)) [] => (match z with
    | .tup xs => if decide (lo ≤ (xs.length : Int)) && decide ((xs.length : Int) ≤ hi) then firstGo j xs xs 0 else some (.int (-1))
    | _ => none)
  | .ok (.p (.bl false)) [] => some (.int (-1))
  | _ => none
abbrev b1F (isT : TC → TC → Option Bool) : RS := sIf (rOr (rNot (rTst (rCB (bIsi isT) (rCons (rVar 0) (rCons (rC (.ty "tuple")) rNil))))) (rNot (rTst (rCh pLe pLe (rVar 1) (rCB bLen (rCons (rVar 0) rNil)) (rVar 2))))) (sRet (r1 pNeg (rC (.int 1)))) sNil
theorem b1_of {isT : TC → TC → Option Bool} {j : PV → PV → Option Bool} {z v : PV} {lo hi : Int} {e3 e4 e5 : Option VV} (h : firstW isT j z lo hi = some v) :
    (b1F isT [some (.p z), some (.p (.int lo)), some (.p (.int hi)), e3, e4, e5] [] = .rt (.p (.int (-1))) [] ∧ v = .int (-1)) ∨
    (b1F isT [some (.p z), some (.p (.int lo)), some (.p (.int hi)), e3, e4, e5] [] = .nx [some (.p z), some (.p (.int lo)), some (.p (.int hi)), e3, e4, e5] [] ∧ ∃ xs, z = .tup xs ∧ firstGo j xs xs 0 = some v) := by
  generalize hE : ([some (.p z), some (.p (.int lo)), some (.p (.int hi)), e3, e4, e5] : EE) = env
  have v0 : ∀ st, rVar 0 env st = .ok (.p z) st := fun st => by subst hE; exact v_of rfl
  have v1 : ∀ st, rVar 1 env st = .ok (.p (.int lo)) st := fun st => by subst hE; exact v_of rfl
  have v2 : ∀ st, rVar 2 env st = .ok (.p (.int hi)) st := fun st => by subst hE; exact v_of rfl
  have hret : sRet (r1 pNeg (rC (.int 1))) env [] = .rt (.p (.int (-1))) [] := rfl
  unfold firstW at h
  split at h
  · rename_i hb
    split at h
    · rename_i xs
      have t1 : rTst (rCB (bIsi isT) (rCons (rVar 0) (rCons (rC (.ty "tuple")) rNil))) env [] = .ok true [] := tst_of (cb_of (two_of (v0 _) c_of) hb)
      have t2 : rTst (rCh pLe pLe (rVar 1) (rCB bLen (rCons (rVar 0) rNil)) (rVar 2)) env [] = .ok (decide (lo ≤ (xs.length : Int)) && decide ((xs.length : Int) ≤ hi)) [] :=
        tst_of (ch_of (v1 _) (cb_of (one_of (v0 _)) (len_seq (b := false) (ys := xs) rfl)) rfl fun _ => ⟨v2 _, rfl⟩)
      have t3 := or_of (not_of t1) fun _ => not_of t2
      split at h
      · rename_i hc
        refine .inr ⟨?_, xs, rfl, h⟩
        show Res.toS (rOr _ _ env []) env _ = _
        rw [t3, hc]
        rfl
      · rename_i hc
        cases h
        refine .inl ⟨?_, rfl⟩
        show Res.toS (rOr _ _ env []) env _ = _
        rw [t3, Bool.eq_false_iff.mpr hc]
        exact hret
    · cases h
  · rename_i hb
    cases h
    have t1 : rTst (rCB (bIsi isT) (rCons (rVar 0) (rCons (rC (.ty "tuple")) rNil))) env [] = .ok false [] := tst_of (cb_of (two_of (v0 _) c_of) hb)
    have t3 : rOr (rNot (rTst (rCB (bIsi isT) (rCons (rVar 0) (rCons (rC (.ty "tuple")) rNil))))) (rNot (rTst (rCh pLe pLe (rVar 1) (rCB bLen (rCons (rVar 0) rNil)) (rVar 2)))) env [] = .ok (true || true) [] := or_of (b := true) (not_of t1) fun z => by cases z
    refine .inl ⟨?_, rfl⟩
    show Res.toS (rOr _ _ env []) env _ = _
    rw [t3]
    exact hret
  · cases h
/-- the lambda called -/
def tJ (w : World) (K : PySem.W.Frag) (G : Nat → Addr) (vw0 : Vw) (m : Nat) (j : PV → PV → Option Bool) : TE := fun σ H Q => ∃ (vw : Vw) (xs : List PV) (k : Nat) (x : PV) (e1 e2 : Option VV) (b : Bool), vw.H = H ∧ VOk w K G vw ∧ Le K vw0 vw ∧ vw.st = [] ∧
  RepE w K G vw [some (.p (.tup xs)), e1, e2, some (.p (.glb m)), some (.p (.int (k : Nat))), some (.p x)] σ ∧ j x (.tup (xs.take k)) = some b ∧ ∀ vw', Le K vw vw' → VOk w K G vw' → vw'.st = [] → Q (.bl b) vw'.H
/-- the walk over the row -/
def tFirst (w : World) (K : PySem.W.Frag) (G : Nat → Addr) (isT : TC → TC → Option Bool) (vw0 : Vw) (m : Nat) (j : PV → PV → Option Bool) (z v : PV) (lo hi : Int) : TS := fun D σ H => ∃ vw : Vw, vw.H = H ∧ VOk w K G vw ∧ Le K vw0 vw ∧ vw.st = [] ∧
  RepE w K G vw [some (.p z), some (.p (.int lo)), some (.p (.int hi)), some (.p (.glb m)), none, none] σ ∧ firstW isT j z lo hi = some v ∧ ∀ vw' u, Le K vw vw' → VOk w K G vw' → vw'.st = [] → RelP w K G vw'.H vw'.Z v u → D.rt u vw'.H
/-- what is walked of the def, piece by piece -/
structure FwW (Y : Cx) (G : Nat → Addr) (isT : TC → TC → Option Bool) (s1 : Stmt) (tg it ea eb : Expr) (sr sn : Stmt) : Prop where
  hp : PassesOwn (model Y.prog Y.w) Y.A Y.env Y.xe
  hc : Y.calm = true
  h1 : PXS Y G noE s1 (b1F isT)
  hi : PXI Y G noE tg it (rEnum (rCons (rVar 0) rNil))
  hg : PXG Y tg (.cons (.nm 4) (.cons (.nm 5) .nil))
  ha : PXA Y G noE [ea, eb] (rCons (rVar 5) (rCons (rSl (rVar 0) rNoPart (rPart (rVar 4))) rNil))
  hr : PXS Y G noE sr (sRet (rVar 4))
  hn : PXS Y G noE sn (sRet (rC .non))
  hs : ∀ x, foldedSetIterable it Y.env x = pure x
theorem pss_first {Y : Cx} {G : Nat → Addr} {isT : TC → TC → Option Bool} {s1 : Stmt} {tg it ea eb : Expr} {sr sn : Stmt} {vw0 : Vw} {m : Nat} {j : PV → PV → Option Bool} {z v : PV} {lo hi : Int} {p1 p2 p3 p4 p5 : Pos} (W : FwW Y G isT s1 tg it ea eb sr sn)
    (hJ : PE Y (.Call (.Name "judge" p1) [ea, eb] [] p2) (tJ Y.w Y.K G vw0 m j)) :
    PSs Y [s1, .For tg it [.If (.UnaryOp .Not (.Call (.Name "judge" p1) [ea, eb] [] p2) p3) [sr] [] p4] [] p5, sn] (tFirst Y.w Y.K G isT vw0 m j z v lo hi) := by
  refine (pss_cons W.h1 (pss_cons (ps_for W.hp W.hc W.hi W.hg (pss_one (ps_if (pt_not (pt_val hJ)) (pss_one W.hr) pss_nil)) W.hs) (pss_one W.hn))).weak fun D σ H h => ?_
  obtain ⟨vw, eH, ok, l, est, re, hf, hq⟩ := h
  subst eH
  rcases b1_of (e3 := some (.p (.glb m))) (e4 := none) (e5 := none) hf with ⟨e, rfl⟩ | ⟨e, xs, rfl, hgo⟩
  · refine ⟨vw, _, rfl, ok, re, ?_⟩
    rw [est, e]
    exact fun vw' u l' ok' es' r => hq vw' u l' ok' es' r
  · refine ⟨vw, _, rfl, ok, re, ?_⟩
    rw [est, e]
    intro vw1 σ1 l1 ok1 es1 re1
    refine ⟨vw1, _, rfl, ok1, re1, ?_⟩
    rw [es1]
    intro vw2 l2 ok2 es2 JJ H1 ⟨vw3, eH3, l3, ok3, es3, it⟩
    subst eH3
    have l03 := ((l.trans l1).trans l2).trans l3
    have lv3 := (l1.trans l2).trans l3
    have re3 := (re1.mono l2).mono l3
    refine ⟨fun i k σ H => k = xs.length - i ∧ i ≤ xs.length ∧ ∃ (vw' : Vw) (e4 e5 : Option VV), vw'.H = H ∧ VOk Y.w Y.K G vw' ∧ Le Y.K vw3 vw' ∧ vw'.st = [] ∧ RepE Y.w Y.K G vw' [some (.p (.tup xs)), some (.p (.int lo)), some (.p (.int hi)), some (.p (.glb m)), e4, e5] σ ∧ firstGo j xs (xs.drop i) i = some v,
      ⟨xs.length, by simp, Nat.zero_le _, vw3, none, none, rfl, ok3, .rfl', es3.trans es2, re3, hgo⟩, ?_⟩
    rintro i k σ' H ⟨rfl, hi', vw4, e4, e5, rfl, ok4, l4, es4, re4, hgo4⟩
    by_cases hlt : i < xs.length
    · have ed : xs.drop i = xs[i] :: xs.drop (i + 1) := List.drop_eq_getElem_cons hlt
      rw [ed, firstGo] at hgo4
      refine .inr ⟨it.go i vw4 l4.lz ok4 (by rw [enumF_len]; exact hlt), fun σ5 H5 => i + 1 ≤ xs.length ∧ ∃ (vw' : Vw) (e4 e5 : Option VV), vw'.H = H5 ∧ VOk Y.w Y.K G vw' ∧ Le Y.K vw3 vw' ∧ vw'.st = [] ∧ RepE Y.w Y.K G vw' [some (.p (.tup xs)), some (.p (.int lo)), some (.p (.int hi)), some (.p (.glb m)), e4, e5] σ5 ∧ firstGo j xs (xs.drop (i + 1)) (i + 1) = some v,
        fun σ5 H5 n => ⟨xs.length - (i + 1), by omega, rfl, n⟩, fun x H' y => ?_⟩
      have ez : (enumF 0 xs)[i]? = some (.tup [.int (i : Nat), xs[i]]) := by
        have hl : i < (enumF 0 xs).length := by rw [enumF_len]; exact hlt
        obtain ⟨x0, e1, e2⟩ := enumF_get xs 0 i _ (List.getElem?_eq_getElem hl)
        rw [List.getElem?_eq_getElem hl, e2]
        rw [List.getElem?_eq_getElem hlt] at e1
        cases e1
        rw [Nat.zero_add]
      obtain ⟨vw5, rfl, l5, ok5, es5, _, r5⟩ := it.yld i vw4 x H' l4.lz ok4 y _ ez
      refine Tg.read (.cons (.nm 4) (.cons (.nm 5) .nil)) (.p (.tup [.int (i : Nat), xs[i]])) x _ [some (.p (.tup xs)), some (.p (.int lo)), some (.p (.int hi)), some (.p (.glb m)), some (.p (.int (i : Nat))), some (.p xs[i])] σ' r5 (re4.mono l5) rfl fun σ2 re2 _ => ?_
      generalize hj : j xs[i] (.tup (xs.take i)) = o at hgo4
      rcases o with _ | b
      · cases hgo4
      · refine ⟨vw5, xs, i, xs[i], _, _, b, rfl, ok5, l03.trans (l4.trans l5), es5.trans es4, re2, hj, fun vw6 l6 ok6 es6 => ⟨b, rfl, ?_⟩⟩
        have l46 := (l4.trans l5).trans l6
        cases b with
        | true =>
          show if (!true) = true then _ else _
          rw [if_neg (by decide)]
          exact ⟨hlt, vw6, _, _, rfl, ok6, l46, es6, re2.mono l6, hgo4⟩
        | false =>
          show if (!false) = true then _ else _
          rw [if_pos (by decide)]
          cases hgo4
          refine ⟨vw6, _, rfl, ok6, re2.mono l6, ?_⟩
          rw [es6]
          exact fun vw7 u l7 ok7 es7 r7 => hq vw7 u ((lv3.trans l46).trans l7) ok7 es7 r7
    · have e : i = xs.length := by omega
      subst e
      rw [List.drop_length, firstGo] at hgo4
      cases hgo4
      refine .inl ⟨it.stop _ vw4 l4.lz ok4 (by rw [enumF_len]), vw4, _, rfl, ok4, re4, ?_⟩
      rw [es4]
      exact fun vw7 u l7 ok7 es7 r7 => hq vw7 u ((lv3.trans l4).trans l7) ok7 es7 r7
end Ev
end S_X31
section S_X32
open PySem PySem.Spec PyProof.Rows L2 HotX
namespace Ev
theorem lamAt_get {X : Cx} {q : Str} {params : Arguments} {body : Expr} {scope : Scope} {H : Hp} {f : Addr} {P : Program} {w : World} {h : Heap} (hok : HOk P w H h) (L : LamAt X q params body scope H f) : PySem.W.FnAt f h := by
  obtain ⟨c', doc, pm, ctv, oc, h1, h2⟩ := L
  have e : ObjOk P w H h f _ := hok f _ h1
  exact ⟨_, _, _, _, e.1⟩
theorem pe_judge {X : Cx} {G : Nat → Addr} {pins : List (Addr × Obj)} {σ : L2.St} {s1 : Shared} {vw0 : Vw} {env : EE} {q : Str} {params : Arguments} {body : Expr} {scope : Scope} {ps : List Str} {f g : Addr} {cdv : Value} {m kb : Nat} {rb : RX} {NT : List Str} {tn : Str} {scT : Scope} {p1 p2 : Pos} {ea eb : Expr} {E0 : XK}
    (I1 : Inv X pins σ vw0.H s1) (LQ : LamQ X.env.scope scope X.N) (hq : X.env.qual ++ "<lambda>" = q) (LP : LamPP X.env params body scope ps) (h2 : ps.length = 2) (hf : LamAt X q params body scope vw0.H f) (hG : G m = f) (re : RepE X.w X.K G vw0 env σ)
    (hr : Room (kb + 1) (X.A.deeper (envOfC tn scT s1.heap.objs.size g cdv)))
    (hbody : ∀ (A : Around) (outer : List Env) (s : Shared) (H : Hp) (E : XK) (f c' : Addr), Room kb (A.deeper (LamX.lamEnv X scope s.heap.objs.size f c')) → PX (lamCxP X A outer s H E scope f c' ps) G noE body rb)
    (hN : NT[3]? = some ("judge" : Str)) (hv : Vis scT ("judge" : Str))
    (ha : PXA (cxOf CXf X.prog X.w X.K X.mg X.base NT tn scT g cdv X.A X.stack s1 vw0.H E0) G noE [ea, eb] (rCons (rVar 5) (rCons (rSl (rVar 0) rNoPart (rPart (rVar 4))) rNil)))
    (he : starEach [ea, eb] (cxOf CXf X.prog X.w X.K X.mg X.base NT tn scT g cdv X.A X.stack s1 vw0.H E0).env = (false, eval ea (cxOf CXf X.prog X.w X.K X.mg X.base NT tn scT g cdv X.A X.stack s1 vw0.H E0).env) :: starEach [eb] (cxOf CXf X.prog X.w X.K X.mg X.base NT tn scT g cdv X.A X.stack s1 vw0.H E0).env)
    (hpl : (backTo p2 (starEach [eb] (cxOf CXf X.prog X.w X.K X.mg X.base NT tn scT g cdv X.A X.stack s1 vw0.H E0).env)).any (·.1) = false) :
    PE (cxOf CXf X.prog X.w X.K X.mg X.base NT tn scT g cdv X.A X.stack s1 vw0.H E0) (.Call (.Name "judge" p1) [ea, eb] [] p2) (tJ X.w X.K G vw0 m (jOf rb env)) := by
  refine ⟨fun pinsZ sZ σZ HZ Q J h => ?_⟩
  obtain ⟨vw, xs, k, x, e1, e2, b, eH, ok, l, est, re', hj, hQ⟩ := h
  subst eH
  have hs : σZ[3]? = some (some (.ref f)) := by
    obtain ⟨v, e, r⟩ := re'.2 3 (.p (.glb m)) rfl
    have r : RelP X.w X.K G vw.H vw.Z (.glb m) v := r
    rw [RelP, hG] at r
    rw [e, r]
  refine wpAny_Call_Name_kw (thn ((pe_var (X := cxOf CXf X.prog X.w X.K X.mg X.base NT tn scT g cdv X.A X.stack s1 vw0.H E0) (pos := p1) (i := 3) hN hv (by decide) (by decide)).run pinsZ sZ σZ vw.H (fun v H1 => v = .ref f ∧ H1 = vw.H) J ⟨.ref f, hs, rfl, rfl⟩) fun u s2 ⟨v, H1, J2, rv, ev, eH⟩ => ?_)
  subst ev eH
  obtain rfl : u = Value.ref f := rv
  refine PySem.W.callWith_F (lamAt_get J2.hok (hf.le l)) (thn (ha.run p2 pinsZ s2 σZ vw.H (fun vs H2 => ∃ vw2 : Vw, vw2.H = H2 ∧ VOk X.w X.K G vw2 ∧ Le X.K vw vw2 ∧ vw2.st = [] ∧ RelVs X.w X.K G vw2 [.p x, .p (.tup (xs.take k))] vs) J2 ⟨vw, _, rfl, ok, re', ?_⟩) fun us s3 ⟨vs, H3, J3, r3, vw2, eH3, ok2, l2, es2, rs⟩ => ?_) he hpl
  · have e : rCons (rVar 5) (rCons (rSl (rVar 0) rNoPart (rPart (rVar 4))) rNil) [some (.p (.tup xs)), e1, e2, some (.p (.glb m)), some (.p (.int (k : Nat))), some (.p x)] [] = .ok [.p x, .p (.tup (xs.take k))] [] := by
      refine two_of (v_of rfl) (sl_of (v_of rfl) rfl (l := none) (h := some (k : Int)) rfl ?_)
      show pSl (.tup xs) none (some (k : Int)) = _
      show some (PV.tup (cutP xs none (some (k : Int)))) = _
      rw [cut_to]
    rw [est, e]
    exact fun vw' l' ok' es' vs rs => ⟨vw', rfl, ok', l', es', rs⟩
  subst eH3
  have l02 := l.trans l2
  have hf2 := hf.le l02
  refine ⟨lamAt_get J3.hok hf2, ?_⟩
  show wpAny _ _ (call (.ref f) us) _ _ _
  obtain ⟨c', doc, pm, ctv, oc, hf3, hc3⟩ := hf2
  have hget : ObjOk X.prog X.w vw2.H s3.heap f _ := J3.hok f _ hf3
  have hl : vs.length = ps.length := by
    rw [h2]
    obtain ⟨v, r, rfl, _, v', r', rfl, _, rfl⟩ := rs
    rfl
  have hlu : us.length = ps.length := r3.length.symm.trans hl
  have ht : tE X.w X.K G noE rb (σ ++ vs.map some) vw2.H Q := by
    refine ⟨vw2, env ++ [some (.p x), some (.p (.tup (xs.take k)))], rfl, ok2, ?_, ?_⟩
    · have re2 := re.mono l02
      obtain ⟨v, r, rfl, r1, v', r', rfl, r2, rfl⟩ := rs
      refine ⟨by simp [re2.1], fun i y e => ?_⟩
      by_cases hi : i < env.length
      · rw [List.getElem?_append_left hi] at e
        rw [List.getElem?_append_left (by rw [← re2.1]; exact hi)]
        exact re2.2 i y e
      · rw [List.getElem?_append_right (by omega)] at e
        rw [List.getElem?_append_right (by rw [← re2.1]; omega), ← re2.1]
        have hd : i - env.length = 0 ∨ i - env.length = 1 ∨ 2 ≤ i - env.length := by omega
        rcases hd with hd | hd | hd
        · rw [hd] at e ⊢
          cases e
          exact ⟨v, rfl, r1⟩
        · rw [hd] at e ⊢
          cases e
          exact ⟨v', rfl, r2⟩
        · rw [List.getElem?_eq_none (by simpa using hd)] at e
          cases e
    · rw [es2, jOf_eq hj]
      intro vw3 l3 ok3 es3 v rv
      obtain rfl := relBl.mp (show RelP X.w X.K G vw3.H vw3.Z (.bl b) v from rv)
      exact hQ vw3 (l2.trans l3) ok3 es3
  have rc := lam_callP (X := X) (A := X.A.deeper (envOfC tn scT s1.heap.objs.size g cdv)) (outer := envOfC tn scT s1.heap.objs.size g cdv :: X.stack) (E := fun _ _ _ => False) (k := kb) (tb := tE X.w X.K G noE rb) (Q := Q) I1 LQ hq hget.1 ⟨oc, hc3⟩ LP.nd LP.hloc r3 hl
    (BindsTo.of_eq (LP.hb q _ doc pm _ ctv us hlu)) J3.env0 hr J3.base (fun hr2 => hbody _ _ _ _ _ _ _ hr2) ht
  refine wpAny_call (codeAny_mono rc fun r1 s4 hq2 => ?_)
  cases r1 with
  | error e =>
    obtain ⟨_, _, _, _, _, _, _, _, _, _, _, _, _, z⟩ := hq2
  | ok fl =>
    cases fl with
    | ret u => exact J3.after hq2
    | next => exact False.elim hq2
    | brk => exact False.elim hq2
    | cont => exact False.elim hq2
end Ev
end S_X32
section S_X33
open PySem PySem.Spec PyProof.Rows L2 HotX
namespace Ev
/-- judge = lambda ..; place = first_wrong(asked, lo, hi, judge) -/
def sJudge (ji pi ai : Nat) (lo hi : Int) (isT : TC → TC → Option Bool) (rb : RX) : RS := fun env st => match env[ai]? with
  | some (some (.p z)) => (match firstW isT (jOf rb (envP (env.set ji none))) z lo hi with
    | some v => if ji < env.length ∧ pi < env.length then .nx ((env.set ji none).set pi (some (.p v))) st else .no
    | none => .no)
  | _ => .no
def tFw (X : Cx) (G : Nat → Addr) (isT : TC → TC → Option Bool) (q : Str) (params : Arguments) (body : Expr) (scope : Scope) (ji ai : Nat) (lo hi : Int) (rb : RX) : TE := fun σ H Q => ∃ (vw : Vw) (f : Addr) (env : EE) (z v : PV), vw.H = H ∧ VOk X.w X.K G vw ∧ LamAt X q params body scope vw.H f ∧
  RepE X.w X.K G vw (env.set ji none) σ ∧ ji < env.length ∧ (env.set ji none)[ai]? = some (some (.p z)) ∧ σ[ji]? = some (some (.ref f)) ∧ firstW isT (jOf rb (envP (env.set ji none))) z lo hi = some v ∧ ∀ vw2 u, Le X.K vw vw2 → VOk X.w X.K G vw2 → vw2.st = vw.st → RelP X.w X.K G vw2.H vw2.Z v u → Q u vw2.H
theorem RepE.set_of {w : World} {K : PySem.W.Frag} {G : Nat → Addr} {vw : Vw} {env : EE} {σ : SSt} {i : Nat} {x : VV} {v : V} (h : RepE w K G vw (env.set i none) σ) (e : σ[i]? = some (some v)) (r : RelVV w K G vw x v) : RepE w K G vw (env.set i (some x)) σ := by
  refine ⟨by have := h.1; simpa using this, fun k y q => ?_⟩
  by_cases hk : i = k
  · subst hk
    have hl : i < env.length := by
      have h1 := (List.getElem?_eq_some_iff.mp e).1
      have h2 := h.1
      rw [List.length_set] at h2
      omega
    rw [List.getElem?_set_self hl] at q
    cases q
    exact ⟨v, e, r⟩
  · rw [List.getElem?_set_ne hk] at q
    exact h.2 k y (by rw [List.getElem?_set_ne hk]; exact q)
theorem RepE.drop_at {w : World} {K : PySem.W.Frag} {G : Nat → Addr} {vw : Vw} {env : EE} {σ : SSt} (i : Nat) (u : Option V) (h : RepE w K G vw env σ) : RepE w K G vw (env.set i none) (σ.set i u) := by
  refine ⟨by simp [h.1], fun k y q => ?_⟩
  by_cases hk : i = k
  · subst hk
    by_cases hl : i < env.length
    · rw [List.getElem?_set_self hl] at q
      cases q
    · rw [List.getElem?_eq_none (by simpa using hl)] at q
      cases q
  · rw [List.getElem?_set_ne hk] at q
    obtain ⟨v, a, b⟩ := h.2 k y q
    exact ⟨v, by rw [List.getElem?_set_ne hk]; exact a, b⟩
theorem repE_envP {w : World} {K : PySem.W.Frag} {G : Nat → Addr} {vw : Vw} {env : EE} {σ : SSt} (h : RepE w K G vw env σ) : RepE w K G vw.aside (envP env) σ := by
  refine ⟨by rw [envP_len]; exact h.1, fun i x e => ?_⟩
  obtain ⟨e1, z, rfl⟩ := envP_get e
  obtain ⟨v, a, b⟩ := h.2 i _ e1
  exact ⟨v, a, b⟩
theorem pe_first {X : Cx} {G : Nat → Addr} {isT : TC → TC → Option Bool} {q : Str} {params : Arguments} {body : Expr} {scope : Scope} {ps : List Str} {ji ai kb : Nat} {lo hi : Int} {rb : RX} {fdT : FuncData} {pT : Arguments} {bT : List Stmt} {NT : List Str} {scT : Scope} {g : Addr} {s1 sr sn : Stmt} {tg it ea eb : Expr} {p p1 p2 p3 p4 p5 pos : Pos} {a0 a1 a2 a3 : Expr}
    (hGa : ∀ a, G (10000 + a) = a) (LQ : LamQ X.env.scope scope X.N) (hq : X.env.qual ++ "<lambda>" = q) (LP : LamPP X.env params body scope ps) (h2 : ps.length = 2) (hr : Room (kb + 2) X.A)
    (hbody : ∀ (A : Around) (outer : List Env) (s : Shared) (H : Hp) (E : XK) (f c' : Addr), Room kb (A.deeper (LamX.lamEnv X scope s.heap.objs.size f c')) → PX (lamCxP X A outer s H E scope f c' ps) G noE body rb)
    (FT : FunD X.K "first_wrong" "first_wrong" pT bT scT [] [] g fdT) (eT : bT = [s1, .For tg it [.If (.UnaryOp .Not (.Call (.Name "judge" p1) [ea, eb] [] p2) p3) [sr] [] p4] [] p5, sn]) (bdT : Binds X.K fdT ["value", "least", "most", "judge"] []) (ST : FnScope NT ["value", "least", "most", "judge"] scT) (hN3 : NT[3]? = some ("judge" : Str)) (hNl : NT.length = 6) (hv3 : Vis scT ("judge" : Str))
    (hfw : ∀ (cdv : Value) (s : Shared) (H : Hp), Room (kb + 1) (X.A.deeper (envOfC "first_wrong" scT s.heap.objs.size g cdv)) → FwW (cxOf CXf X.prog X.w X.K X.mg X.base NT "first_wrong" scT g cdv X.A X.stack s H (fun _ _ _ => False)) G isT s1 tg it ea eb sr sn ∧
      starEach [ea, eb] (envOfC "first_wrong" scT s.heap.objs.size g cdv) = (false, eval ea (envOfC "first_wrong" scT s.heap.objs.size g cdv)) :: starEach [eb] (envOfC "first_wrong" scT s.heap.objs.size g cdv) ∧ (backTo p2 (starEach [eb] (envOfC "first_wrong" scT s.heap.objs.size g cdv))).any (·.1) = false)
    (hg : Gl X "first_wrong") (hm : X.mg "first_wrong" = some (.ref g)) (hne : ai ≠ ji)
    (ha : PXA X G noE [a0, a1, a2, a3] (rCons (rVar ai) (rCons (rC (.int lo)) (rCons (rC (.int hi)) (rCons (rVar ji) rNil)))))
    (he : starEach [a0, a1, a2, a3] X.env = (false, eval a0 X.env) :: starEach [a1, a2, a3] X.env := by rfl) (hpl : (backTo pos (starEach [a1, a2, a3] X.env)).any (·.1) = false := by rfl) :
    PE X (.Call (.Name "first_wrong" p) [a0, a1, a2, a3] [] pos) (tFw X G isT q params body scope ji ai lo hi rb) := by
  refine ⟨fun pins s σ H Q I ⟨vw, f, env, z, v, eH, ok, hf, re, hji, hz, hs, hw, hQ⟩ => ?_⟩
  subst eH
  obtain ⟨oc, od, dV, kV, doc, pm, an, cdv, ct, osl, efd, lk, hcd, _, _⟩ := FT.ex
  have rj : RelVV X.w X.K G vw (.p (.glb (10000 + f))) (.ref f) := by
    show RelP X.w X.K G vw.H vw.Z (.glb (10000 + f)) (.ref f)
    rw [RelP, hGa]
  have re2 := RepE.set_of re hs rj
  refine wpAny_Call_Name_kw (ld_glob I hg hm ?_ (by decide))
  refine PySem.W.callWith_K (h₀ := X.base) I.ok.mod.kin FT.kp (thn (ha.run pos pins s σ vw.H (fun vs H2 => ∃ vw2 : Vw, vw2.H = H2 ∧ VOk X.w X.K G vw2 ∧ Le X.K vw vw2 ∧ vw2.st = vw.st ∧ RelVs X.w X.K G vw2 [.p z, .p (.int lo), .p (.int hi), .p (.glb (10000 + f))] vs) I ⟨vw, _, rfl, ok, re2, ?_⟩) fun us s1' ⟨vs, H2, I1, r, vw2, eH2, ok2, l2, es2, rs⟩ => ⟨I1.kIn, ?_⟩) he hpl
  · have hz2 : (env.set ji (some (.p (.glb (10000 + f)))))[ai]? = some (some (.p z)) := by
      rw [List.getElem?_set_ne (Ne.symm hne)] at hz ⊢
      exact hz
    have e : rCons (rVar ai) (rCons (rC (.int lo)) (rCons (rC (.int hi)) (rCons (rVar ji) rNil))) (env.set ji (some (.p (.glb (10000 + f))))) vw.st = .ok [.p z, .p (.int lo), .p (.int hi), .p (.glb (10000 + f))] vw.st :=
      cons_of (v_of hz2) (cons_of c_of (cons_of c_of (one_of (v_of (List.getElem?_set_self hji)))))
    rw [e]
    exact fun vw' l' ok' es' vs rs => ⟨vw', rfl, ok', l', es', rs⟩
  subst eH2
  show wpAny _ _ (call (.ref g) us) _ _ _
  have hl : vs.length = 4 := by
    obtain ⟨v0, r0, rfl, _, v1, r1, rfl, _, v2, r2, rfl, _, v3, r3, rfl, _, rfl⟩ := rs
    rfl
  have hbT := bdT s1' us I1.kIn (by rw [List.append_nil, ← r.length, hl]; rfl)
  rw [List.append_nil, efd] at hbT
  have hf2 := hf.le l2
  have rep : RepE X.w X.K G vw2.aside (envP (env.set ji none)) σ := repE_envP (re.mono l2)
  have rc : codeAny (model X.prog X.w) X.A (.call (.ref g) ⟨us, []⟩) (CR CXf X.stack X.prog X.w vw2.H s1' Q (fun _ _ _ => False)) s1' := by
    refine LamX.run_ofS (k := kb + 1) (N := NT) (ps := ["value", "least", "most", "judge"]) (by rw [← efd]; exact lk) hcd ST hr I1.env0 hbT r (by rw [hl]; rfl) fun hr' => ?_
    obtain ⟨W, he2, hpl2⟩ := hfw cdv s1' vw2.H hr'
    have pj := pe_judge (p1 := p1) (p2 := p2) (vw0 := vw2.aside) (env := envP (env.set ji none)) (m := 10000 + f) (NT := NT) (tn := "first_wrong") (scT := scT) (g := g) (cdv := cdv) (E0 := fun _ _ _ => False) I1 LQ hq LP h2 hf2 (hGa f) rep hr' hbody hN3 hv3 W.ha he2 hpl2
    rw [eT]
    refine ⟨_, pss_first (z := z) (v := v) (lo := lo) (hi := hi) (p3 := p3) (p4 := p4) (p5 := p5) W pj, vw2.aside, rfl, ok2.aside, .rfl', rfl, ?_, hw, fun vw' u l' ok' es' r' => ?_⟩
    · have h0 : envOf NT.length [.p z, .p (.int lo), .p (.int hi), .p (.glb (10000 + f))] = [some (.p z), some (.p (.int lo)), some (.p (.int hi)), some (.p (.glb (10000 + f))), none, none] := by rw [hNl]; rfl
      rw [← h0]
      refine rep_start (N := NT) ?_
      obtain ⟨v0, r0, rfl, x0, v1, r1, rfl, x1, v2, r2, rfl, x2, v3, r3, rfl, x3, rfl⟩ := rs
      exact ⟨v0, _, rfl, x0, v1, _, rfl, x1, v2, _, rfl, x2, v3, _, rfl, x3, rfl⟩
    · exact hQ (vw2.again vw') u (l2.trans (Le.again l')) (VOk.again ok2 l' ok') es2 r'
  refine wpAny_call (codeAny_mono rc fun r1 s2 hq2 => ?_)
  cases r1 with
  | error e => exact (show False from hq2).elim
  | ok fl =>
    cases fl with
    | ret u => exact I1.after hq2
    | next => exact False.elim hq2
    | brk => exact False.elim hq2
    | cont => exact False.elim hq2
/-- the two statements -/
theorem pxss_judge {X : Cx} {G : Nat → Addr} {E : WE} {isT : TC → TC → Option Bool} {k : Nat} {q : Str} {P c : Addr} {params : Arguments} {body : Expr} {scope : Scope} {ps : List Str} {ji pi ai : Nat} {lo hi : Int} {rb : RX} {tj tp ec : Expr} {lpos pos1 pos2 : Pos} {rest : List Stmt} {rs : RS}
    (LP : LamPP X.env params body scope ps) (C : LawC X G k q P c) (LQ : LamQ X.env.scope scope X.N)
    (hgj : PXG X tj (.nm ji)) (hgp : PXG X tp (.nm pi)) (hc : PE X ec (tFw X G isT q params body scope ji ai lo hi rb)) (hrest : PXSs X G E rest rs) (hne : ai ≠ ji)
    (hs1 : swapsWithSole [tj] (.Lambda params body scope lpos) pos1.line X.env = pure false := by rfl) (hw1 : swappedStores [tj] (.Lambda params body scope lpos) X.env = pure none := by rfl) (h11 : (assignEach [tj] X.env).map (·.2) = [assign tj X.env] := by rfl)
    (hs2 : swapsWithSole [tp] ec pos2.line X.env = pure false := by rfl) (hw2 : swappedStores [tp] ec X.env = pure none := by rfl) (h12 : (assignEach [tp] X.env).map (·.2) = [assign tp X.env] := by rfl) :
    PXSs X G E (.Assign [tj] (.Lambda params body scope lpos) pos1 :: .Assign [tp] ec pos2 :: rest) (sSeq (sJudge ji pi ai lo hi isT rb) rs) := by
  refine (pss_cons (ps_asg (pe_lam LP C LQ) hgj hs1 hw1 h11) (pss_cons (ps_asg hc hgp hs2 hw2 h12) hrest)).weak fun D σ H ⟨vw, env, eH, ok, re, h⟩ => ?_
  subst eH
  have key : sJudge ji pi ai lo hi isT rb env vw.st = .no ∨ ∃ z v, env[ai]? = some (some (.p z)) ∧ firstW isT (jOf rb (envP (env.set ji none))) z lo hi = some v ∧ (ji < env.length ∧ pi < env.length) ∧ sJudge ji pi ai lo hi isT rb env vw.st = .nx ((env.set ji none).set pi (some (.p v))) vw.st := by
    unfold sJudge
    split
    · rename_i z hz
      split
      · rename_i v hv
        split
        · rename_i hl
          exact .inr ⟨z, v, hz, hv, hl, rfl⟩
        · exact .inl rfl
      · exact .inl rfl
    · exact .inl rfl
  rcases key with e | ⟨z, v, hz, hv, hl, e⟩
  · rw [sSeq, e] at h
    exact h.elim
  · rw [sSeq, e] at h
    refine ⟨vw, rfl, ok, fun vw1 f l1 ok1 es1 hf => ?_⟩
    have hσ : ji < σ.length := by rw [← re.1]; exact hl.1
    refine ⟨vw1, f, env, z, v, rfl, ok1, hf, (re.mono l1).drop_at ji _, hl.1, by rw [List.getElem?_set_ne (Ne.symm hne)]; exact hz, List.getElem?_set_self hσ, hv, fun vw2 u l2 ok2 es2 r2 => ?_⟩
    refine ⟨vw2, (env.set ji none).set pi (some (.p v)), rfl, ok2, RepE.set (((re.mono l1).mono l2).drop_at ji _) (x := .p v) r2, ?_⟩
    rw [es2, es1]
    exact GS.back (l1.trans l2) h
end Ev
end S_X33
section S_X34
open PySem PySem.Spec PyProof.Rows L2
namespace Ev
section
variable {P : Program} {w : World} {K : PySem.W.Frag} {mg : Str → Option Value} {base : Heap} {G : Nat → Addr}
/-- a body keeps its promise; its code object is known -/
theorem fn_bodyC {x qual : Str} {at_ : He.Defn} {fd : FuncData} {st : Stmt} {N ps : List Str} {k : Nat} {rs : RS} (F : FunD K x qual (defArgs st) (defBody st) (defScope st) [] [] (He.fAd K at_) fd) (S : FnScope N ps (defScope st))
    (hbody : ∀ (cdv : Value) (A : Around) (outer : List Env) (s : Shared) (H : Hp) (E : XK), cdv = .ref (He.codeOf K at_) → Room k (A.deeper (envOfC qual (defScope st) s.heap.objs.size (He.fAd K at_) cdv)) →
      Takes (cxOf (L2.CX P w) P w K mg base N qual (defScope st) (He.fAd K at_) cdv A outer s H E) (wxE w K G (bodyE w K G E)) →
      PassesOwn (model P w) (A.deeper (envOfC qual (defScope st) s.heap.objs.size (He.fAd K at_) cdv)) (envOfC qual (defScope st) s.heap.objs.size (He.fAd K at_) cdv) (cxOf (L2.CX P w) P w K mg base N qual (defScope st) (He.fAd K at_) cdv A outer s H E).xe →
      PXSs (cxOf (L2.CX P w) P w K mg base N qual (defScope st) (He.fAd K at_) cdv A outer s H E) G (bodyE w K G E) (defBody st) rs) :
    FnOk P w K mg base (L2.CX P w) (k + 1) (He.fAd K at_) fd ps (spM w K G ps.length (fnM N.length rs)) := by
  refine ⟨fun vs H Q E h => h.1, fun A outer s H args us vs Q E hr e0 hb rv hsp => ?_⟩
  obtain ⟨oc, od, dV, kV, doc, pm, an, cdv, ct, osl, efd, lk, hcd, _, _⟩ := F.ex
  subst efd
  obtain ⟨c, rfl⟩ := He.codeIn_ref hcd
  have hco : He.codeOf K at_ = c := He.codeOf_eq lk rfl
  refine LamX.run_ofS lk hcd S hr e0 hb rv hsp.1 fun hr' => ?_
  obtain ⟨hl, vw, xs, eH, ok, r, q⟩ := hsp
  refine ⟨_, hbody (.ref c) A outer s H E (by rw [hco]) hr' (takes_imp (takes_of rfl rfl rfl rfl) ?_) (passes_of rfl), vw, envOf N.length xs, eH, ok, rep_start r, ?_⟩
  · rintro cls d σ H' ⟨vw', env, c, us, rfl, ok', re', xr, h⟩
    exact h cls d xr
  · unfold fnM at q
    show GS w K G vw (bodyE w K G E) (rs (envOf N.length xs) vw.st) _
    generalize rs (envOf N.length xs) vw.st = r1 at q
    cases r1 with
    | nx e st' => exact fun vw' σ l o es _ => q vw' l o es _ (by rw [show RelVV w K G vw' (.p .non) V.non = RelP w K G vw'.H vw'.Z .non V.non from rfl, RelP])
    | rt x st' => exact fun vw' v l o es rv => q vw' l o es v rv
    | ex c us e st' => exact fun vw' l o es => q vw' l o es
    | bk e st' => exact q.elim
    | ct e st' => exact q.elim
    | no => exact q.elim
end
/-! ### len(set(t)), t a tuple of ints -/
theorem intsOf_eq : ∀ {xs : List PV} {ns : List Int}, intsOf xs = some ns → xs = ns.map .int
  | [], ns, h => by cases h; rfl
  | x :: xs, ns, h => by
    cases x <;> try (cases h; done)
    rename_i i
    rw [intsOf, Option.map_eq_some_iff] at h
    obtain ⟨ms, e, rfl⟩ := h
    rw [intsOf_eq e] <;> rfl
theorem relPs_ints {w : World} {K : PySem.W.Frag} {G : Nat → Addr} {H : Hp} {Z : Addr → Prop} : ∀ {ns : List Int} {vs : List V}, RelPs w K G H Z (ns.map .int) vs → vs = ns.map V.int
  | [], vs, h => by rw [List.map_nil, RelPs] at h; exact h
  | n :: ns, vs, h => by
    rw [List.map_cons, RelPs] at h
    obtain ⟨v, r, rfl, h1, h2⟩ := h
    rw [relInt.mp h1, relPs_ints h2] <;> rfl
/-- how many ints, each told once -/
def dcnt : List Int → Nat
  | [] => 0
  | x :: xs => if x ∈ xs then dcnt xs else dcnt xs + 1
def ddup : List Int → List Int
  | [] => []
  | x :: xs => if x ∈ xs then ddup xs else x :: ddup xs
theorem ddup_mem : ∀ (l : List Int) (x : Int), x ∈ ddup l ↔ x ∈ l
  | [], x => Iff.rfl
  | y :: l, x => by
    rw [ddup]
    by_cases h : y ∈ l
    · rw [if_pos h, ddup_mem l x, List.mem_cons]
      exact ⟨.inr, fun z => z.elim (fun e => e ▸ h) id⟩
    · rw [if_neg h, List.mem_cons, List.mem_cons, ddup_mem l x]
theorem ddup_nodup : ∀ l : List Int, (ddup l).Nodup
  | [] => List.nodup_nil
  | y :: l => by
    rw [ddup]
    by_cases h : y ∈ l
    · rw [if_pos h]; exact ddup_nodup l
    · rw [if_neg h]
      exact List.nodup_cons.mpr ⟨fun z => h ((ddup_mem l y).mp z), ddup_nodup l⟩
theorem ddup_len : ∀ l : List Int, (ddup l).length = dcnt l
  | [] => rfl
  | y :: l => by
    rw [ddup, dcnt]
    by_cases h : y ∈ l
    · rw [if_pos h, if_pos h, ddup_len l]
    · rw [if_neg h, if_neg h, List.length_cons, ddup_len l]
theorem nodup_len_le : ∀ (l D : List Int), l.Nodup → (∀ x ∈ l, x ∈ D) → l.length ≤ D.length
  | [], _, _, _ => Nat.zero_le _
  | x :: l, D, hn, hs => by
    obtain ⟨h1, h2⟩ := List.nodup_cons.mp hn
    have hx : x ∈ D := hs x List.mem_cons_self
    have ih := nodup_len_le l (D.erase x) h2 fun y hy => by
      have hne : y ≠ x := fun e => h1 (e ▸ hy)
      exact (List.mem_erase_of_ne hne).2 (hs y (List.mem_cons_of_mem _ hy))
    have e := List.length_erase_of_mem hx
    have hp : 0 < D.length := List.length_pos_of_mem hx
    rw [List.length_cons]
    omega
theorem dcnt_of {l ns : List Int} (hn : l.Nodup) (hm : ∀ k, k ∈ l ↔ k ∈ ns) : l.length = dcnt ns := by
  rw [← ddup_len]
  exact Nat.le_antisymm (nodup_len_le _ _ hn fun x hx => (ddup_mem ns x).mpr ((hm x).mp hx)) (nodup_len_le _ _ (ddup_nodup ns) fun x hx => (hm x).mpr ((ddup_mem ns x).mp hx))
def tLenSetT (K : PySem.W.Frag) (ta : TE) : TE := fun σ H Q => ta σ H fun x H1 => ∃ (l : Addr) (ns : List Int), x = .ref l ∧ SqT K H1 l (ns.map V.int) ∧ ns.length ≤ 1000 ∧ Q (.int (dcnt ns : Nat)) H1
def rLenSet (r : RX) : RX := fun env st => (r env st).bind fun x st1 => match x with
  | .p (.tup xs) => (match intsOf xs with
    | some ns => if ns.length ≤ 1000 then .ok (.p (.int (dcnt ns : Nat))) st1 else .no
    | none => .no)
  | _ => .no
section
variable {X : Cx} {G : Nat → Addr} {E : WE} {pos pos' p p2 q : Pos} {a : Expr} {ta : TE} {r : RX}
theorem pe_lenSetT (hg : Gl X "len") (hm : X.mg "len" = none) (hg2 : Gl X "set") (hm2 : X.mg "set" = none) (ha : PE X a ta) (hc : X.calm = true := by rfl)
    (na : starEach [a] X.env = (false, eval a X.env) :: starEach [] X.env := by rfl) : PE X (.Call (.Name "len" p) [.Call (.Name "set" p2) [a] [] q] [] pos) (tLenSetT X.K ta) := by
  refine ⟨fun pins s σ H Q I h => ?_⟩
  refine Call_ (ld_blt I hg hm PySem.boot_len ?_)
  refine PyProof.Rows.callWith_builtin1 (PyProof.Rows.args_cons ?_ rfl) rfl rfl
  refine Call_ (ld_blt I hg2 hm2 PyProof.Rows.boot_set ?_)
  refine PyProof.Rows.callWith_type1 (PyProof.Rows.args_cons (thn (ha.run pins s σ H _ I h) fun v s1 ⟨x, H1, I1, r1, q1⟩ => PyProof.Rows.args_nil ?_) na) na rfl
  obtain ⟨l, ns, rfl, hq, hl, q1⟩ := q1
  cases r1
  obtain ⟨its, r, pl, hz⟩ := I1.tuple hq
  have hi : IntsAre its.toArray.toList ns := ints_of_vals r
  refine call_set_tupI ns (I1.ok.hd hc) (show s1.heap.IsTuple l its.toArray from pl) hi (by unfold scanBound; omega) fun h' tk c R1 hcn k => ?_
  refine PyProof.Rows.args_nil ?_
  obtain ⟨o, es, ep, t, ho, hex, hdt, g, nd, hm3, hb, hf, hn, hr, hl2⟩ := R1
  have I2 : Inv X pins σ H1 { s1 with heap := h', toks := tk } := I1.kept k
  have e : es.size = dcnt ns := by
    rw [← dcnt_of nd (ns := ns) fun k => by rw [← hm3 k]; exact decide_eq_true_iff]
    simp
  exact call_len_set ho hex hdt hf (by rw [hn]; omega) ⟨.int (dcnt ns : Nat), H1, I2.tok _, ⟨_, by rw [e]⟩, q1⟩
theorem px_lenSet (hg : Gl X "len") (hm : X.mg "len" = none) (hg2 : Gl X "set") (hm2 : X.mg "set" = none) (ha : PX X G E a r) (hc : X.calm = true := by rfl)
    (na : starEach [a] X.env = (false, eval a X.env) :: starEach [] X.env := by rfl) : PX X G E (.Call (.Name "len" p) [.Call (.Name "set" p2) [a] [] q] [] pos) (rLenSet r) :=
  (pe_lenSetT hg hm hg2 hm2 ha hc na).weak fun σ H Q ⟨vw, env, eH, ok, re, q⟩ => by
    refine ⟨vw, env, eH, ok, re, (GQ.bind q).imp fun vw1 x l1 ok1 q1 v rv => ?_⟩
    split at q1
    · rename_i xs
      split at q1
      · rename_i ns hi
        split at q1
        · rename_i hl
          obtain ⟨l, vs, rfl, hq, _, rs⟩ := relTup.mp (show RelP X.w X.K G vw1.H vw1.Z (.tup xs) v from rv)
          rw [intsOf_eq hi] at rs
          rw [relPs_ints rs] at hq
          exact ⟨l, ns, rfl, hq, hl, q1 vw1 .rfl' ok1 rfl _ vvInt⟩
        · exact q1.elim
      · exact q1.elim
    · exact q1.elim
/-! ### o[i], o'[i'] = a pair -/
variable {o1 k1 o2 k2 value : Expr} {ro1 rk1 ro2 rk2 rv : RX} {pa pb pt : Pos} {kt : Nat}
def sPutV (ra rk : RX) (y : VV) : RS := fun env st1 => (ra env st1).toS env fun z st2 => (rk env st2).toS env fun k st3 => match putIx z k y st3 with
  | some st4 => .nx env st4
  | none => .no
def sPut2 (ro1 rk1 ro2 rk2 rv : RX) : RS := fun env st => (rv env st).toS env fun x st1 => match x with
  | .p (.tup [x, y]) => sSeq (sPutV ro1 rk1 (.p x)) (sPutV ro2 rk2 (.p y)) env st1
  | _ => .no
theorem putV_read (hu : X.A.units + 65 < cLine) {v : V} {y : VV} {D : Ends} {σ : SSt} {vw : Vw} {env : EE} (ok : VOk X.w X.K G vw) (re : RepE X.w X.K G vw env σ) (ry : RelVV X.w X.K G vw y v) (h : GS X.w X.K G vw E (sPutV ro1 rk1 y env vw.st) D) :
    gSub (tE X.w X.K G E ro1) (tE X.w X.K G E rk1) (tPutEv X.w X.K G) v σ vw.H fun σ' H' => D.nx σ' H' := by
  refine ⟨vw, env, rfl, ok, re, (GS.bind h).imp fun vw2 z l2 ok2 q2 v2 rz => ⟨vw2, env, rfl, ok2, re.mono l2, (GS.bind q2).imp fun vw3 k l3 ok3 q3 iv rk => ?_⟩⟩
  split at q3
  · rename_i st4 hp
    exact ⟨vw3, z, k, y, st4, rfl, ok3, l3.v rz, rk, l3.v (l2.v ry), hp, fun vw' l o es => q3 vw' σ l o es (((re.mono l2).mono l3).mono l)⟩
  · exact q3.elim
theorem pxs_put2 (hu : X.A.units + 65 < cLine) (hc : X.calm = true) (ha1 : PX X G E o1 ro1) (hk1 : PX X G E k1 rk1) (ha2 : PX X G E o2 ro2) (hk2 : PX X G E k2 rk2) (hv : PX X G E value rv)
    (has1 : ∀ v, assign (.Subscript o1 k1 pa) X.env v = (do
      let ov ← holding [v] (eval o1 X.env)
      let iv ← holding [v, ov] (eval k1 X.env)
      standAt pa
      holding [v, ov, iv] (setItem ov iv v)
      release [v, ov, iv] []) := by intro _; rfl)
    (has2 : ∀ v, assign (.Subscript o2 k2 pb) X.env v = (do
      let ov ← holding [v] (eval o2 X.env)
      let iv ← holding [v, ov] (eval k2 X.env)
      standAt pb
      holding [v, ov, iv] (setItem ov iv v)
      release [v, ov, iv] []) := by intro _; rfl)
    (hs : swapsWithSole [.Tuple [.Subscript o1 k1 pa, .Subscript o2 k2 pb] kt pt] value pos.line X.env = pure false := by rfl) (hw : swappedStores [.Tuple [.Subscript o1 k1 pa, .Subscript o2 k2 pb] kt pt] value X.env = pure none := by rfl)
    (h1 : (assignEach [.Tuple [.Subscript o1 k1 pa, .Subscript o2 k2 pb] kt pt] X.env).map (·.2) = [assign (.Tuple [.Subscript o1 k1 pa, .Subscript o2 k2 pb] kt pt) X.env] := by rfl)
    (hs1 : (assignEach [.Subscript o1 k1 pa, .Subscript o2 k2 pb] X.env).map (·.2) = assign (.Subscript o1 k1 pa) X.env :: (assignEach [.Subscript o2 k2 pb] X.env).map (·.2) := by rfl)
    (hs2 : (assignEach [.Subscript o2 k2 pb] X.env).map (·.2) = assign (.Subscript o2 k2 pb) X.env :: (assignEach [] X.env).map (·.2) := by rfl)
    (hn : (assignEach [.Subscript o1 k1 pa, .Subscript o2 k2 pb] X.env).length = 2 := by rfl) (hst : (assignEach [.Subscript o1 k1 pa, .Subscript o2 k2 pb] X.env).findIdx? (·.1) = none := by rfl) :
    PXS X G E (.Assign [.Tuple [.Subscript o1 k1 pa, .Subscript o2 k2 pb] kt pt] value pos) (sPut2 ro1 rk1 ro2 rk2 rv) :=
  (ps_asg hv (pg_tup hc (pgs_cons (pg_sub ha1 hk1 (pset_ev hu) has1) (pgs_cons (pg_sub ha2 hk2 (pset_ev hu) has2) pgs_nil hs2) hs1) hn hst) hs hw h1).weak fun D σ H ⟨vw, env, eH, ok, re, q⟩ => by
    refine ⟨vw, env, eH, ok, re, (GS.bind q).imp fun vw1 x l1 ok1 q1 u rx => ?_⟩
    split at q1
    · rename_i x y
      obtain ⟨a, vs, rfl, hq, _, rs⟩ := relTup.mp (show RelP X.w X.K G vw1.H vw1.Z (.tup [x, y]) u from rx)
      have rs' := rs
      rw [RelPs] at rs'
      obtain ⟨v1, r1, rfl, h1, rs'⟩ := rs'
      rw [RelPs] at rs'
      obtain ⟨v2, r2, rfl, h2, rs'⟩ := rs'
      rw [RelPs] at rs'
      subst rs'
      refine ⟨a, _, rfl, hq, rfl, v1, _, rfl, ?_⟩
      unfold sSeq at q1
      refine putV_read (D := { D with nx := fun σ' H' => gCons (gSub (tE X.w X.K G E ro2) (tE X.w X.K G E rk2) (tPutEv X.w X.K G)) gNil [v2] σ' H' D.nx }) (y := .p x) hu ok1 (re.mono l1) h1 ?_
      generalize hr : sPutV ro1 rk1 (.p x) env vw1.st = r at q1
      cases r with
      | nx e st2 =>
        intro vw2 σ2 l2 ok2 es2 re2
        refine ⟨v2, [], rfl, ?_⟩
        have q2 : GS X.w X.K G vw2 E (sPutV ro2 rk2 (.p y) e vw2.st) { D with nx := fun σ' H' => gNil [] σ' H' D.nx } := by
          rw [es2]
          have q1 : GS X.w X.K G vw1 E (sPutV ro2 rk2 (.p y) e st2) D := q1
          refine GS.ends (GS.back l2 q1) (fun e' st' h vw' σ' l o es re' => ?_) (fun _ _ h => h) (fun e' st' h => ?_) (fun e' st' h => ?_)
          · rw [h] at q1
            exact ⟨rfl, q1 vw' σ' (l2.trans l) o es re'⟩
          · exfalso
            unfold sPutV at h
            generalize ro2 e st2 = t1 at h
            cases t1 with
            | ok z s2 =>
              have h : (rk2 e s2).toS e _ = _ := h
              generalize rk2 e s2 = t2 at h
              cases t2 with
              | ok k s3 =>
                have h : (match putIx z k (.p y) s3 with | some st4 => SRes.nx e st4 | none => .no) = _ := h
                split at h <;> cases h
              | ex _ _ _ => cases h
              | no => cases h
            | ex _ _ _ => cases h
            | no => cases h
          · exfalso
            unfold sPutV at h
            generalize ro2 e st2 = t1 at h
            cases t1 with
            | ok z s2 =>
              have h : (rk2 e s2).toS e _ = _ := h
              generalize rk2 e s2 = t2 at h
              cases t2 with
              | ok k s3 =>
                have h : (match putIx z k (.p y) s3 with | some st4 => SRes.nx e st4 | none => .no) = _ := h
                split at h <;> cases h
              | ex _ _ _ => cases h
              | no => cases h
            | ex _ _ _ => cases h
            | no => cases h
        exact putV_read (y := .p y) hu ok2 re2 (l2.p h2) q2
      | rt x' st' => exact q1
      | bk e st' => exact q1
      | ct e st' => exact q1
      | ex c us e st' => exact q1
      | no => exact q1
    · exact q1.elim
end
end Ev
end S_X34
section S_X35
open PySem PySem.Spec PyProof.Rows L2
namespace Ev
/-! ### t.index(x), t a tuple that a def has made by tuple(..) -/
def NoD (H : Hp) (v : V) : Prop := ∃ a o u, v = .ref a ∧ H a = some (.frz o u) ∧ o.dict = none
theorem NoD.le {K : PySem.W.Frag} {vw vw1 : Vw} {v : V} (h : NoD vw.H v) (l : Le K vw vw1) : NoD vw1.H v := by
  obtain ⟨a, o, u, e, h1, h2⟩ := h
  exact ⟨a, o, u, e, l.fz _ _ _ h1, h2⟩
section
variable (w : World) (K : PySem.W.Frag) (G : Nat → Addr)
def tEF (E : WE) (r : RX) : TE := fun σ H Q => ∃ vw env, vw.H = H ∧ VOk w K G vw ∧ RepE w K G vw env σ ∧
  GQ w K G vw (fun vw' => E vw' env) (r env vw.st) fun vw' x => ∀ v, RelVV w K G vw' x v → NoD vw'.H v → Q v vw'.H
def GSF (vw : Vw) (E : WE) (r : SRes) (D : Ends) : Prop := match r with
  | .rt x st => ∀ vw' v, Le K vw vw' → VOk w K G vw' → vw'.st = st → RelVV w K G vw' x v → NoD vw'.H v → D.rt v vw'.H
  | .ex c us e st => ∀ vw', Le K vw vw' → VOk w K G vw' → vw'.st = st → E vw' e c us
  | _ => False
def tSF (E : WE) (r : RS) : TS := fun D σ H => ∃ vw env, vw.H = H ∧ VOk w K G vw ∧ RepE w K G vw env σ ∧ GSF w K G vw E (r env vw.st) D
def spF (n : Nat) (F : MF) : Sp := fun vs H Q E => vs.length = n ∧ ∃ vw xs, vw.H = H ∧ VOk w K G vw ∧ RelVs w K G vw xs vs ∧
  GQ w K G vw (ewX w K G E) (F xs vw.st) fun vw' x => ∀ v, RelVV w K G vw' x v → NoD vw'.H v → Q v vw'.H
end
section
variable {P : Program} {w : World} {K : PySem.W.Frag} {mg : Str → Option Value} {base : Heap} {G : Nat → Addr}
theorem fn_ofF {CX : CXT} {j n : Nat} {f : Addr} {fd : FuncData} {ps : List Str} {F : MF} (h : FnOk P w K mg base CX j f fd ps (spF w K G n F)) : FnOk P w K mg base CX j f fd ps (spM w K G n F) :=
  h.imp fun _ _ _ _ ⟨hl, vw, xs, eH, ok, rs, q⟩ => ⟨hl, vw, xs, eH, ok, rs, q.imp fun _ _ _ _ z v rv _ => z v rv⟩
theorem fnF_pure {CX : CXT} {j n : Nat} {f : Addr} {fd : FuncData} {ps : List Str} {F : MF} (h : FnOk P w K mg base CX j f fd ps (spF w K G n F)) : FnOk P w K mg base CX j f fd ps (spF w K G n (liftP (pureOf F))) := by
  refine h.imp fun vs H Q E ⟨hl, vw, xs, eH, ok, rs, q⟩ => ?_
  unfold liftP at q
  cases ht : toPs xs with
  | none => rw [ht] at q; exact q.elim
  | some ys =>
    rw [ht] at q
    dsimp only at q
    have rp := toPs_rel rs ht
    refine ⟨hl, vw.aside, ys.map .p, eH, ok.aside, relVs_map (vw := vw.aside) rp, ?_⟩
    unfold pureOf at q
    show GQ w K G vw.aside _ (F (ys.map .p) []) _
    generalize F (ys.map .p) [] = r at q
    cases r with
    | no => exact q.elim
    | ex c us st =>
      intro vw1 l ok1 es cls d ⟨x1, gs, ws, dd, zs, x2, x3, x4, x5, x6, x7⟩
      exact q (vw.again vw1) (Le.again l) (VOk.again ok l ok1) rfl cls d ⟨x1, gs, ws, dd, zs, x2, x3, x4, x5, x6, fun f => x7 (by rw [l.f]; exact .inl f)⟩
    | ok x st =>
      intro vw1 l ok1 es v rv nd
      cases x with
      | ref n => exact q.elim
      | p z => exact q (vw.again vw1) (Le.again l) (VOk.again ok l ok1) rfl v rv nd
/-- a body as a function that ends with a return -/
def fnMF (n : Nat) (b : RS) : MF := fun xs st => match b (envOf n xs) st with
  | .rt x st' => .ok x st'
  | .ex c us _ st' => .ex c us st'
  | _ => .no
theorem fn_bodyF {x qual : Str} {st : Stmt} {f : Addr} {fd : FuncData} {N ps : List Str} {k : Nat} {rs : RS} (F : FunD K x qual (defArgs st) (defBody st) (defScope st) [] [] f fd) (S : FnScope N ps (defScope st))
    (hbody : ∀ (cdv : Value) (A : Around) (outer : List Env) (s : Shared) (H : Hp) (E : XK), Room k (A.deeper (envOfC qual (defScope st) s.heap.objs.size f cdv)) →
      Takes (cxOf (L2.CX P w) P w K mg base N qual (defScope st) f cdv A outer s H E) (wxE w K G (bodyE w K G E)) →
      PassesOwn (model P w) (A.deeper (envOfC qual (defScope st) s.heap.objs.size f cdv)) (envOfC qual (defScope st) s.heap.objs.size f cdv) (cxOf (L2.CX P w) P w K mg base N qual (defScope st) f cdv A outer s H E).xe →
      PSs (cxOf (L2.CX P w) P w K mg base N qual (defScope st) f cdv A outer s H E) (defBody st) (tSF w K G (bodyE w K G E) rs)) :
    FnOk P w K mg base (L2.CX P w) (k + 1) f fd ps (spF w K G ps.length (fnMF N.length rs)) := by
  refine F.ok (N := N) S (fun vs H Q E h => h.1) fun cdv A outer s H vs Q E hr hsp => ?_
  obtain ⟨hl, vw, xs, eH, ok, r, q⟩ := hsp
  refine ⟨_, hbody cdv A outer s H E hr (takes_imp (takes_of rfl rfl rfl rfl) ?_) (passes_of rfl), vw, envOf N.length xs, eH, ok, rep_start r, ?_⟩
  · rintro cls d σ H' ⟨vw', env, c, us, rfl, ok', re', xr, h⟩
    exact h cls d xr
  · unfold fnMF at q
    show GSF w K G vw (bodyE w K G E) (rs (envOf N.length xs) vw.st) _
    generalize rs (envOf N.length xs) vw.st = r1 at q
    cases r1 with
    | nx e st' => exact q.elim
    | rt x st' => exact fun vw' v l o es rv nd => q vw' l o es v rv nd
    | ex c us e st' => exact fun vw' l o es => q vw' l o es
    | bk e st' => exact q.elim
    | ct e st' => exact q.elim
    | no => exact q.elim
end
section
variable {X : Cx} {G : Nat → Addr} {E : WE} {pos p : Pos} {x : Str} {e : Expr} {es : List Expr} {t : RA} {F : MF} {k : Nat} {f : Addr} {fd : FuncData} {ps : List Str} {r : RX}
/-- tuple(xs), xs a list -/
def rTupL (r : RX) : RX := fun env st => (r env st).bind fun x st1 => match x with
  | .p (.lst ys) => .ok (.p (.tup ys)) st1
  | _ => .no
theorem call_tupF : CallR X (.type "tuple") (fun xs H Q => ∃ p ys, xs = [.ref p] ∧ SqL X.K H p ys ∧ ∀ (l : Addr) (o : Obj), H l = none → o.dict = none → Q (.ref l) (upd H l (.frz o (.tup ys)))) := by
  intro pins s σ H xs us Q I r h
  obtain ⟨p, ys, rfl, hq, q⟩ := h
  obtain ⟨u, rfl, rx⟩ := vals1 r
  cases rx
  obtain ⟨its, r', pl, hz⟩ := I.list hq
  have hlen := r'.length
  refine call_tuple_list pl.isList (fun h' kp => ?_) (by simp only [List.size_toArray] <;> omega)
  have I1 : Inv X pins σ H { s with heap := h' } := I.kept (t' := s.toks) kp
  have I2 : Inv X pins σ (upd H h'.objs.size (.frz { cls := .type "tuple", data := .seq its.toArray } (.tup ys))) { s with heap := h'.push { cls := .type "tuple", data := .seq its.toArray } } :=
    I1.laid (t' := s.toks) (fun b o e => Heap.get?_push_of_some _ e) (Nat.le_refl _) ⟨Heap.get?_push_size _ rfl, hz, its, r', IsTup.new _ _⟩
  exact ⟨.ref h'.objs.size, _, I2, rfl, q _ _ (I1.hok.fresh (Nat.le_refl _)) rfl⟩
theorem pe_tupF (hg : Gl X "tuple") (hm : X.mg "tuple" = none) (ha : PX X G E e r) (he : starEach [e] X.env = (false, eval e X.env) :: starEach [] X.env := by rfl) (hpl : (backTo pos (starEach [] X.env)).any (·.1) = false := by rfl) :
    PE X (.Call (.Name "tuple" p) [e] [] pos) (tEF X.w X.K G E (rTupL r)) :=
  (pe_callTy call_tupF hg hm rfl (pa_cons ha pa_nil he) (by decide) (by decide) he hpl).weak fun σ H Q ⟨vw, env, eH, ok, re, q⟩ => by
    refine ⟨vw, env, eH, ok, re, (GQ.bind q).imp fun vw1 x l1 ok1 q1 v rv => ?_⟩
    split at q1
    · rename_i ys
      obtain ⟨a, vs, rfl, hz, hq, hl, rs⟩ := relLst.mp (show RelP X.w X.K G vw1.H vw1.Z (.lst ys) v from rv)
      refine ⟨a, vs, rfl, .of hq, fun l o hn hd => ?_⟩
      refine q1 (vw1.grow l (.frz o (.tup vs)) False) (Le.grow ok1 hn) (VOk.grow ok1 hn) rfl (.ref l) (relTup.mpr ⟨l, vs, rfl, .inl (.inr ⟨o, upd_same⟩), hl, (Le.grow ok1 hn).ps rs⟩) ⟨l, o, _, rfl, upd_same, hd⟩
    · exact q1.elim
def sNx (s t : RS) : RS := fun env st => match s env st with
  | .nx e st1 => t e st1
  | .ex c us e st1 => .ex c us e st1
  | _ => .no
/-- a statement, then return -/
theorem pss_F {s1 : Stmt} {rs1 : RS} (h1 : PXS X G E s1 rs1) (h2 : PE X e (tEF X.w X.K G E r)) : PSs X [s1, .Return (some e) pos] (tSF X.w X.K G E (sNx rs1 (sRet r))) :=
  (pss_cons h1 (pss_one (ps_ret h2))).weak fun D σ H ⟨vw, env, eH, ok, re, q⟩ => by
    refine ⟨vw, env, eH, ok, re, ?_⟩
    unfold sNx at q
    generalize rs1 env vw.st = r1 at q
    cases r1 with
    | nx e st1 =>
      intro vw' σ' l' ok' es' re'
      refine ⟨vw', e, rfl, ok', re', ?_⟩
      have q : GSF X.w X.K G vw E (sRet r e st1) D := q
      unfold sRet at q
      rw [es']
      generalize r e st1 = r2 at q
      cases r2 with
      | ok x st2 => exact fun vw2 l2 ok2 es2 v rv nd => q vw2 v (l'.trans l2) ok2 es2 rv nd
      | ex c us st2 => exact fun vw2 l2 ok2 es2 => q vw2 (l'.trans l2) ok2 es2
      | no => exact q.elim
    | rt x st' => exact q.elim
    | bk e st' => exact q.elim
    | ct e st' => exact q.elim
    | ex c us e st' => exact fun vw' l ok' es' => q vw' l ok' es'
    | no => exact q.elim
theorem call_readF {σ : SSt} {H : Hp} {Q : VK} {vw : Vw} {env : EE} {vs : List V} {xs : List VV} {n : Nat} (eH : vw.H = H) (ok : VOk X.w X.K G vw) (re : RepE X.w X.K G vw env σ) (hl : vs.length = n) (rs : RelVs X.w X.K G vw xs vs)
    (q : GQ X.w X.K G vw (fun vw' => E vw' env) (F xs vw.st) fun vw' x => ∀ v, RelVV X.w X.K G vw' x v → NoD vw'.H v → Q v vw'.H) : spF X.w X.K G n F vs H Q (L2.WE (wxE X.w X.K G E) σ) := by
  refine ⟨hl, vw, xs, eH, ok, rs, ?_⟩
  generalize F xs vw.st = r at q
  cases r with
  | ok x st => exact q
  | no => exact q.elim
  | ex c us st => exact fun vw' l o es cls d xr => ⟨vw', env, c, us, rfl, o, re.mono l, xr, q vw' l o es⟩
theorem pe_callF {n : Nat} (hF : FnOk X.prog X.w X.K X.mg X.base (L2.CX X.prog X.w) k f fd ps (spF X.w X.K G n F)) (hr : Room k X.A) (hg : Gl X x) (hm : X.mg x = some (.ref f)) (hk : PySem.W.keepIn X.K (.ref f) = true) (hb : Binds X.K fd ps [])
    (tk : Takes X (wxE X.w X.K G E)) (ha : PXA X G E (e :: es) t) (hdb : (x == ("__debug__" : Str)) = false := by decide) (he : starEach (e :: es) X.env = (false, eval e X.env) :: starEach es X.env := by rfl) (hpl : (backTo pos (starEach es X.env)).any (·.1) = false := by rfl) :
    PE X (.Call (.Name x p) (e :: es) [] pos) (tEF X.w X.K G E (rCall (rArity n F) t)) :=
  (pe_callS hF hr hg hm hk hb (fun σ => passAt tk σ) ha hdb he hpl).weak fun σ H Q ⟨vw, env, eH, ok, re, q⟩ => by
    refine ⟨vw, env, eH, ok, re, (GQ.bind q).imp fun vw1 xs l1 ok1 q1 vs rs => ?_⟩
    unfold rArity at q1
    split at q1
    · rename_i hn
      exact call_readF rfl ok1 (re.mono l1) (by rw [← rs.len]; exact hn) rs q1
    · exact q1.elim
/-! the method -/
def bIndexT : MF := fun xs st => match xs with
  | [.p (.tup ys), .p (.int k)] => (match intsOf ys with
    | some ns => if k ∈ ns then .ok (.p (.int (ns.idxOf k : Nat))) st else .no
    | none => .no)
  | _ => .no
def tIdxT (w : World) (K : PySem.W.Frag) (G : Nat → Addr) (E : WE) (fi : Nat) (t : RA) : TE := fun σ H Q => ∃ (vw : Vw) (env : EE) (ys : List PV) (v : V), vw.H = H ∧ VOk w K G vw ∧ RepE w K G vw env σ ∧ σ[fi]? = some (some v) ∧ RelP w K G vw.H vw.Z (.tup ys) v ∧ NoD vw.H v ∧
  GQ w K G vw (fun vw' => E vw' env) ((t env vw.st).bind fun xs st2 => (bIndexT (.p (.tup ys) :: xs) st2).nox) fun vw' x => ∀ v, RelVV w K G vw' x v → Q v vw'.H
theorem pe_idxT {fi : Nat} {p2 cpos : Pos} (hN : X.N[fi]? = some x) (hv : Vis X.env.scope x) (ha : PXA X G E [e] t) (hd : (x == ("__debug__" : Str)) = false := by decide) (hcd : (x == ("__classdict__" : Str)) = false := by decide)
    (hbase : attributeBase (.Name x p) "index" X.env (eval (.Name x p) X.env) = eval (.Name x p) X.env := by rfl)
    (hfew : ((backTo cpos (starEach [e] X.env)).all (fun x => !x.1) && (backToKw cpos (keywordEach [] X.env)).all (fun x => x.1.isSome)
      && decide (([e] : List Expr).length + ([] : List Keyword).length + (if ([] : List Keyword).isEmpty then 0 else 1) < 30)) = true := by rfl)
    (hline : (p2.endLine == cpos.line) = true := by rfl) (hs : starEach [e] X.env = (false, eval e X.env) :: starEach [] X.env := by rfl) (hplain : (backTo cpos (starEach [] X.env)).any (·.1) = false := by rfl) :
    PE X (.Call (.Attribute (.Name x p) "index" p2) [e] [] cpos) (tIdxT X.w X.K G E fi t) := by
  refine ⟨fun pins s σ H Q I ⟨vw, env, ys, v, eH, ok, re, hσ, rv, nd, q⟩ => ?_⟩
  subst eH
  refine wpAny_Call_method_late hbase hfew hline rfl (thn ((pe_var (pos := p) hN hv hd hcd).run pins s σ vw.H (fun v' H1 => v' = v ∧ H1 = vw.H) I ⟨v, hσ, rfl, rfl⟩) fun u s1 ⟨v', H1, I1, r1, e1, e2⟩ => ?_)
  subst e1 e2
  obtain ⟨a, o, uu, rfl, hfz, hdn⟩ := nd
  cases r1
  obtain ⟨a', vs, e3, hq, hl, rs⟩ := relTup.mp rv
  cases e3
  obtain ⟨its, r', pl, hz⟩ := I1.tuple hq
  have hfo : ObjOk X.prog X.w vw.H s1.heap a (.frz o uu) := I1.hok a _ hfz
  refine ⟨"tuple", "tuple.index", PySem.F.plainAttrs_tuple, PySem.F.slot_tuple_index, PySem.F.type_tuple_index, (let ⟨ob, h1, h2, _⟩ := pl; ⟨ob, h1, h2⟩), fun b eb => ?_, ?_⟩
  · cases eb
    exact ⟨o, hfo.1, hdn⟩
  · have hA := ha.run cpos pins s1 σ vw.H (fun vs H2 => ∃ (vw2 : Vw) (xs : List VV), vw2.H = H2 ∧ VOk X.w X.K G vw2 ∧ Le X.K vw vw2 ∧ RelVs X.w X.K G vw2 xs vs ∧ GQ X.w X.K G vw2 (fun vw' => E vw' env) ((bIndexT (.p (.tup ys) :: xs) vw2.st).nox) fun vw' x => ∀ v, RelVV X.w X.K G vw' x v → Q v vw'.H) I1 ⟨vw, env, rfl, ok, re, (GQ.bind q).imp fun vw2 xs l2 ok2 q2 vs rs => ⟨vw2, xs, rfl, ok2, l2, rs, q2⟩⟩
    rw [hs] at hA ⊢
    refine Calls.callWith_builtin (by show (false || (backTo cpos (starEach [] X.env)).any (·.1)) = false; rw [hplain] <;> rfl) (Calls.evalArgs_plain ?_)
    refine thn hA fun us s2 ⟨vs2, H2, I2, r2, vw2, xs, eH2, ok2, l2, rs2, q2⟩ => ?_
    subst eH2
    unfold bIndexT at q2
    split at q2
    · rename_i h0 ys' k heq
      cases heq
      split at q2
      · rename_i ns hi
        split at q2
        · rename_i hk
          obtain ⟨v1, _, rfl, rk, rfl⟩ := rs2
          have rk := relInt.mp (show RelP X.w X.K G vw2.H vw2.Z (.int k) v1 from rk)
          subst rk
          obtain ⟨u1, rfl, tk, rfl⟩ := vals1 r2
          have rt2 : RelP X.w X.K G vw2.H vw2.Z (.tup ys) (.ref a) := l2.p rv
          obtain ⟨a2, ws, e4, hq2, _, rw2⟩ := relTup.mp rt2
          cases e4
          rw [intsOf_eq hi] at rw2
          rw [relPs_ints rw2] at hq2
          obtain ⟨its2, r3, pl2, _⟩ := I2.tuple hq2
          exact PySem.SeqAt.tuple_index_ints pl2 (ints_of_vals r3) hk ⟨.int (ns.idxOf k : Nat), vw2.H, I2.tok _, ⟨_, rfl⟩, q2 vw2 .rfl' ok2 rfl _ vvInt⟩
        · exact q2.elim
      · exact q2.elim
    · exact q2.elim
/-- x = f(..); return x.index(..) -/
def sIdxT (fi : Nat) (r : RX) (t : RA) : RS := fun env st => (r env st).toS env fun x st1 => match x with
  | .p (.tup ys) => if fi < env.length then ((t (env.set fi (some x)) st1).bind fun xs st2 => (bIndexT (x :: xs) st2).nox).toS (env.set fi (some x)) fun y st3 => .rt y st3 else .no
  | _ => .no
theorem pxss_idxT {fi : Nat} {tg ec : Expr} {pos1 p2 cpos pos2 : Pos} (hc : PE X ec (tEF X.w X.K G E r)) (hg : PXG X tg (.nm fi)) (hN : X.N[fi]? = some x) (hv : Vis X.env.scope x) (ha : PXA X G E [e] t) (hd : (x == ("__debug__" : Str)) = false := by decide) (hcd : (x == ("__classdict__" : Str)) = false := by decide)
    (hbase : attributeBase (.Name x p) "index" X.env (eval (.Name x p) X.env) = eval (.Name x p) X.env := by rfl)
    (hfew : ((backTo cpos (starEach [e] X.env)).all (fun x => !x.1) && (backToKw cpos (keywordEach [] X.env)).all (fun x => x.1.isSome)
      && decide (([e] : List Expr).length + ([] : List Keyword).length + (if ([] : List Keyword).isEmpty then 0 else 1) < 30)) = true := by rfl)
    (hline : (p2.endLine == cpos.line) = true := by rfl) (hs : starEach [e] X.env = (false, eval e X.env) :: starEach [] X.env := by rfl) (hplain : (backTo cpos (starEach [] X.env)).any (·.1) = false := by rfl)
    (hs1 : swapsWithSole [tg] ec pos1.line X.env = pure false := by rfl) (hw1 : swappedStores [tg] ec X.env = pure none := by rfl) (h11 : (assignEach [tg] X.env).map (·.2) = [assign tg X.env] := by rfl) :
    PXSs X G E [.Assign [tg] ec pos1, .Return (some (.Call (.Attribute (.Name x p) "index" p2) [e] [] cpos)) pos2] (sIdxT fi r t) :=
  (pss_cons (ps_asg hc hg hs1 hw1 h11) (pss_one (ps_ret (pe_idxT hN hv ha hd hcd hbase hfew hline hs hplain)))).weak fun D σ H ⟨vw, env, eH, ok, re, q⟩ => by
    refine ⟨vw, env, eH, ok, re, (GS.bind q).imp fun vw1 x l1 ok1 q1 v rv nd => ?_⟩
    split at q1
    · rename_i ys
      split at q1
      · rename_i hl
        have re1 := re.mono l1
        refine ⟨vw1, env.set fi (some (.p (.tup ys))), ys, v, rfl, ok1, re1.set (x := .p (.tup ys)) rv, List.getElem?_set_self (by rw [← re1.1]; exact hl), rv, nd, (GS.bind q1).imp fun vw2 y l2 ok2 q2 u ru => q2 vw2 u .rfl' ok2 rfl ru⟩
      · exact q1.elim
    · exact q1.elim
end
end Ev
end S_X35
section S_X36
open PySem PySem.Spec PyProof.Rows L2
namespace Ev
/-! ### a list of the store is locked while a statement walks it -/
def unlkL (n : Nat) (st : Sto) : Option Sto := match st[n]? with
  | some (some (.lkl xs)) => some (st.set n (some (.lst false xs)))
  | _ => none
def unlSL (n : Nat) (r : SRes) : SRes := match r with
  | .nx e st => (match unlkL n st with
    | some st' => .nx e st'
    | none => .no)
  | .rt x st => (match unlkL n st with
    | some st' => .rt x st'
    | none => .no)
  | .bk e st => (match unlkL n st with
    | some st' => .bk e st'
    | none => .no)
  | .ct e st => (match unlkL n st with
    | some st' => .ct e st'
    | none => .no)
  | _ => .no
def sLockL (p : Pth) (s : RS) : RS := fun env st => match p.at env st with
  | some (.ref n) => (match st[n]? with
    | some (some (.lst false xs)) => unlSL n (s env (st.set n (some (.lkl xs))))
    | _ => .no)
  | _ => .no
section
variable {w : World} {K : PySem.W.Frag} {G : Nat → Addr} {vw vw1 : Vw}
/-- a list of the store is locked, and unlocked again -/
theorem lockL_ok {n : Nat} {xs : List PV} (ok : VOk w K G vw) (eo : vw.st[n]? = some (some (.lst false xs))) : ∃ u, vw.H (vw.al n) = some u ∧ Mut (some u) ∧ ∀ od, ∃ vw1, vw1.H = upd vw.H (vw.al n) (.frz od u) ∧ Le K vw vw1 ∧ VOk w K G vw1 ∧ vw1.st = vw.st.set n (some (.lkl xs)) ∧
    ∀ vw' st', Le K vw1 vw' → VOk w K G vw' → unlkL n vw'.st = some st' → ∃ vw2, vw'.H (vw.al n) = some (.frz od u) ∧ vw2.H = upd vw'.H (vw.al n) u ∧ Le K vw vw2 ∧ VOk w K G vw2 ∧ vw2.st = st' ∧ ∀ x v, RelVV w K G vw' x v → RelVV w K G vw2 x v := by
  have hu : ∃ u, vw.H (vw.al n) = some u ∧ Mut (some u) ∧ isTup u = false ∧ ∀ od, OkOb w K G (vw.write n (.frz od u) (.lkl xs)) (vw.al n) (.lkl xs) := by
    obtain ⟨vs, h1, h2, h3⟩ := ok.ob n _ eo
    refine ⟨_, h1, trivial, rfl, fun od => ?_⟩
    have l := Le.write (K := K) (o := .frz od (.lst vs)) (ob := .lkl xs) ok eo h1 rfl
    exact ⟨vs, ⟨od, upd_same⟩, h2, l.ps h3⟩
  obtain ⟨u, hu, mu, nt, hob⟩ := hu
  have hn : n < vw.st.length := (List.getElem?_eq_some_iff.mp eo).1
  refine ⟨u, hu, mu, fun od => ⟨vw.write n (.frz od u) (.lkl xs), rfl, Le.write ok eo hu nt, VOk.write ok eo hu nt (hob od), rfl, fun vw' st' l' ok' hl => ?_⟩⟩
  have l0 : Le K vw (vw.write n (.frz od u) (.lkl xs)) := Le.write ok eo hu nt
  have l := l0.trans l'
  have hfz : vw'.H (vw.al n) = some (.frz od u) := l'.fz _ _ _ (show upd vw.H (vw.al n) (.frz od u) (vw.al n) = _ from upd_same)
  have hal : vw'.al n = vw.al n := l.al n hn
  unfold unlkL at hl
  split at hl
  · rename_i xs' eo'
    cases hl
    have nz := (ok'.nz n _ eo').1
    have nf := (ok'.nz n _ eo').2
    rw [hal] at nz nf
    have zne : ∀ a, vw'.Z a → a ≠ vw.al n := fun a h q => nz (by rw [← q]; exact h)
    have tup : ∀ a vs, SqT K vw'.H a vs → SqT K (upd vw'.H (vw.al n) u) a vs := fun a vs h => by
      rcases h with h | h
      · refine .inl (Rd.upd h fun q => ?_)
        rw [q] at h
        rcases h with h | ⟨o', h⟩ <;> rw [hfz] at h
        · cases h
        · cases h; cases nt
      · exact .inr h
    have hp : ∀ x v, RelP w K G vw'.H vw'.Z x v → RelP w K G (upd vw'.H (vw.al n) u) vw'.Z x v := fun x v h =>
      RelP.mono (fun _ h => h) (fun a u' z h => Rd.upd h (zne a z)) (fun a o z _ h => by rw [upd_ne (zne a z)]; exact h) tup (fun a u' z ⟨o, h⟩ => ⟨o, by rw [upd_ne (zne a z)]; exact h⟩) x v h
    have hv : ∀ x v, RelVV w K G vw' x v → RelVV w K G ({ vw' with H := upd vw'.H (vw.al n) u, st := vw'.st.set n (some (.lst false xs')) } : Vw) x v := fun x v h => by
      cases x with
      | p x => exact hp x v h
      | ref m => exact ⟨by show _ < (vw'.st.set n _).length; rw [List.length_set]; exact h.1, h.2⟩
    refine ⟨{ vw' with H := upd vw'.H (vw.al n) u, st := vw'.st.set n (some (.lst false xs')) }, hfz, rfl, ?_, ?_, rfl, hv⟩
    · refine ⟨l.z, fun a u' z r => Rd.upd (l.zr a u' z r) (zne a (l.z a z)), fun a o z i r => ?_, l.f, fun a hf => ?_, fun a vs h => tup a vs (l.tu a vs h), l.al, ?_, fun a o u' h => ?_⟩
      · show upd vw'.H (vw.al n) u a = _
        rw [upd_ne (zne a (l.z a z))]
        exact l.ze a o z i r
      · show upd vw'.H (vw.al n) u a = _
        rw [upd_ne (fun q => nf (by rw [← q, l.f]; exact hf))]
        exact l.fr a hf
      · show _ ≤ (vw'.st.set n _).length
        rw [List.length_set]; exact l.len
      · show upd vw'.H (vw.al n) u a = _
        rw [upd_ne (fun q => by rw [q, hu] at h; cases h; cases nt)]
        exact l.fz a o u' h
    · have hn' : n < vw'.st.length := Nat.lt_of_lt_of_le hn l.len
      have cs : ∀ m b, (vw'.st.set n (some (.lst false xs')))[m]? = some (some b) → (m = n ∧ b = .lst false xs') ∨ (m ≠ n ∧ vw'.st[m]? = some (some b)) := fun m b q => by
        by_cases hm : m = n
        · subst hm
          rw [List.getElem?_set_self hn'] at q
          cases q; exact .inl ⟨rfl, rfl⟩
        · rw [List.getElem?_set_ne (Ne.symm hm)] at q
          exact .inr ⟨hm, q⟩
      have live : ∀ m b, (vw'.st.set n (some (.lst false xs')))[m]? = some (some b) → ∃ b', vw'.st[m]? = some (some b') := fun m b q => by
        rcases cs m b q with ⟨rfl, _⟩ | ⟨_, q⟩
        · exact ⟨_, eo'⟩
        · exact ⟨_, q⟩
      refine ⟨ok'.zf, fun a hf => ?_, fun a hz => ?_, fun m b q => ?_, fun m b q => ?_, fun m m' b b' q q' z => ?_, ok'.tab.move (fun _ h => h) (fun _ z => .inl z) (fun _ f => .inl f) (fun P ps e => by
        show upd vw'.H (vw.al n) u P = _
        rw [upd_ne (fun q => by rw [q, hfz] at e; cases e)]
        exact e) fun a o v z e => by
        show upd vw'.H (vw.al n) u a = _
        rw [upd_ne (zne a z)]
        exact e⟩
      · show upd vw'.H (vw.al n) u a ≠ none
        rw [upd_ne (fun q => nf (by rw [← q]; exact hf))]
        exact ok'.fn a hf
      · show upd vw'.H (vw.al n) u a ≠ none
        rw [upd_ne (zne a hz)]
        exact ok'.zn a hz
      · rcases cs m b q with ⟨rfl, rfl⟩ | ⟨hm, q⟩
        · have h := ok'.ob m _ eo'
          have e2 : upd vw'.H (vw.al m) u (vw'.al m) = some u := by rw [hal]; exact upd_same
          obtain ⟨vs, ⟨o, h1⟩, h2, h3⟩ := h
          rw [hal, hfz] at h1
          cases h1
          exact ⟨vs, e2, h2, relPs_of hp h3⟩
        · refine (ok'.ob m b q).move hp hv (show upd vw'.H (vw.al n) u (vw'.al m) = vw'.H (vw'.al m) from upd_ne fun z => hm (ok'.inj m n b _ q eo' (by rw [hal]; exact z)))
      · obtain ⟨b', q'⟩ := live m b q
        exact ok'.nz m b' q'
      · obtain ⟨c, q1⟩ := live m b q
        obtain ⟨c', q2⟩ := live m' b' q'
        exact ok'.inj m m' c c' q1 q2 z
  · cases hl
end
section
variable {X : Cx} {G : Nat → Addr} {E : WE} {st : Stmt} {rs : RS}
theorem pxs_lockL (p : Pth) (h : PXS X G E st rs) : PXS X G E st (sLockL p rs) := (ps_lock h).weak fun D σ H ⟨vw, env, eH, ok, re, q⟩ => by
  subst eH
  unfold sLockL at q
  split at q
  · rename_i n hn
    split at q
    · rename_i xs eo
      obtain ⟨u, hu, mu, hl⟩ := lockL_ok ok eo
      refine ⟨vw.al n, u, hu, mu, fun od => ?_⟩
      obtain ⟨vw1, eH1, l1, ok1, es1, un⟩ := hl od
      refine ⟨vw1, env, eH1, ok1, re.mono l1, ?_⟩
      rw [es1]
      generalize rs env (vw.st.set n (some (.lkl xs))) = r at q
      cases r with
      | nx e st' =>
        unfold unlSL at q
        dsimp only at q
        split at q
        · rename_i st2 h2
          intro vw' σ' l' ok' es' re'
          subst es'
          obtain ⟨vw2, a1, a2, a3, a4, a5, a6⟩ := un vw' st2 l' ok' h2
          refine ⟨a1, ?_⟩
          rw [← a2]
          exact q vw2 σ' a3 a4 a5 (re'.of a6)
        · exact q.elim
      | bk e st' =>
        unfold unlSL at q
        dsimp only at q
        split at q
        · rename_i st2 h2
          intro vw' σ' l' ok' es' re'
          subst es'
          obtain ⟨vw2, a1, a2, a3, a4, a5, a6⟩ := un vw' st2 l' ok' h2
          refine ⟨a1, ?_⟩
          rw [← a2]
          exact q vw2 σ' a3 a4 a5 (re'.of a6)
        · exact q.elim
      | ct e st' =>
        unfold unlSL at q
        dsimp only at q
        split at q
        · rename_i st2 h2
          intro vw' σ' l' ok' es' re'
          subst es'
          obtain ⟨vw2, a1, a2, a3, a4, a5, a6⟩ := un vw' st2 l' ok' h2
          refine ⟨a1, ?_⟩
          rw [← a2]
          exact q vw2 σ' a3 a4 a5 (re'.of a6)
        · exact q.elim
      | rt x st' =>
        unfold unlSL at q
        dsimp only at q
        split at q
        · rename_i st2 h2
          intro vw' v' l' ok' es' rv'
          subst es'
          obtain ⟨vw2, a1, a2, a3, a4, a5, a6⟩ := un vw' st2 l' ok' h2
          refine ⟨a1, ?_⟩
          rw [← a2]
          exact q vw2 v' a3 a4 a5 (a6 _ _ rv')
        · exact q.elim
      | ex c us e st' => exact q.elim
      | no => exact q.elim
    · exact q.elim
  · exact q.elim
end
theorem it_enumLF {w : World} {K : PySem.W.Frag} {G : Nat → Addr} {vw1 : Vw} {p : Addr} {o : Obj} {vs : List V} {xs : List PV} (h : vw1.H p = some (.frz o (.lst vs))) (r : RelPs w K G vw1.H vw1.Z xs vs) : ItOk w K G vw1 (Ite K p) (enumF 0 xs) where
  go := fun i vw' l ok hi => by
    have hi' : i < vs.length := by rw [enumF_len] at hi; rw [← r.len]; exact hi
    exact ⟨vs, vs[i], .inl (.inr ⟨o, l.fz _ _ _ h⟩), List.getElem?_eq_getElem hi'⟩
  stop := fun i vw' l ok hi => ⟨vs, .inl (.inr ⟨o, l.fz _ _ _ h⟩), by rw [enumF_len] at hi; rw [← r.len]; omega⟩
  yld := fun i vw' x H' l ok y z ez => by
    obtain ⟨T, v0, rfl, hT, rfl, hv⟩ := y
    obtain ⟨x0, e0, rfl⟩ := enumF_get xs 0 i z ez
    obtain ⟨v, e1, r1⟩ := r.get e0
    have := hv vs (.inl (.inr ⟨o, l.fz _ _ _ h⟩))
    rw [e1] at this
    cases this
    exact pair_yld ok hT (by rw [Nat.zero_add]; exact relInt.mpr rfl) (l.p r1)
  held := fun i vw' x H' l ok y _ a ha => by
    obtain ⟨T, v0, rfl, hT, rfl, hv⟩ := y
    exact upd_ne (fun e => ha (by rw [e]; exact hT))
/-- enumerate(xs), xs a list of the store that stands locked -/
def rEnumS (t : RA) : RI := fun env st => (t env st).bind fun xs st1 => match xs with
  | [.ref n] => (match st1[n]? with
    | some (some (.lkl ys)) => .ok (enumF 0 ys) st1
    | _ => .no)
  | _ => .no
section
variable {X : Cx} {G : Nat → Addr} {E : WE} {e a b : Expr} {t : RA} {p pos tpos : Pos} {elts : List Expr} {kk : Nat} {ra rb : RX}
theorem pxi_enumS (hg : Gl X "enumerate") (hm : X.mg "enumerate" = none) (ha : PXA X G E [e] t) (hs : starEach [e] X.env = [(false, eval e X.env)] := by rfl) : PXI X G E (.Tuple elts kk tpos) (.Call (.Name "enumerate" p) [e] [] pos) (rEnumS t) :=
  (pi_enumA hg hm ha hs).weak fun σ H R ⟨vw, env, eH, ok, re, q⟩ => by
    refine ⟨vw, env, eH, ok, re, (GQ.bind q).imp fun vw1 x l1 ok1 q1 vs rs => ?_⟩
    split at q1
    · rename_i n
      split at q1
      · rename_i ys eo
        obtain ⟨v, _, rfl, rv, rfl⟩ := rs
        obtain ⟨ws, ⟨o, hf⟩, hl, r⟩ := ok1.ob _ _ eo
        obtain rfl : v = .ref (vw1.al n) := rv.2
        have hq : Rd vw1.H (vw1.al n) (.lst ws) := .inr ⟨o, hf⟩
        exact ⟨_, ws, rfl, .inl ⟨.inl hq, q1 vw1 .rfl' ok1 rfl _ _ ⟨vw1, rfl, .rfl', ok1, rfl, it_enumLF hf r⟩⟩⟩
      · exact q1.elim
    · exact q1.elim
/-! ### new lists of the store: xs + ys, xs * k -/
def lstOf (st : Sto) : VV → Option (List PV)
  | .p (.lst xs) => some xs
  | .ref n => (match st[n]? with
    | some (some (.lst _ xs)) => some xs
    | _ => none)
  | _ => none
theorem lstOf_rel {w : World} {K : PySem.W.Frag} {vw : Vw} {z : VV} {v : V} {xs : List PV} (ok : VOk w K G vw) (r : RelVV w K G vw z v) (h : lstOf vw.st z = some xs) : ∃ p vs, v = .ref p ∧ vw.H p = some (.lst vs) ∧ vs.length ≤ sizeLine ∧ RelPs w K G vw.H vw.Z xs vs := by
  unfold lstOf at h
  split at h
  · cases h
    obtain ⟨p, vs, rfl, hz, hp, l, r⟩ := relLst.mp (show RelP w K G vw.H vw.Z (.lst xs) v from r)
    exact ⟨p, vs, rfl, hp, l, r⟩
  · split at h
    · rename_i eo
      cases h
      obtain ⟨vs, h1, h2, h3⟩ := ok.ob _ _ eo
      exact ⟨_, vs, r.2, h1, h2, h3⟩
    · cases h
  · cases h
def rCatM (ra rb : RX) : RX := fun env st => (ra env st).bind fun x st1 => (rb env st1).bind fun y st2 => match lstOf st2 x, lstOf st2 y with
  | some xs, some ys => if xs.length + ys.length ≤ 16777216 then .ok (.ref st2.length) (st2 ++ [some (.lst false (xs ++ ys))]) else .no
  | _, _ => .no
theorem px_catM (ha : PX X G E a ra) (hb : PX X G E b rb) : PX X G E (.BinOp a .Add b pos) (rCatM ra rb) :=
  (pe_op op_cat ha hb).weak fun σ H Q ⟨vw, env, eH, ok, re, q⟩ => by
    refine ⟨vw, env, eH, ok, re, (GQ.bind q).imp fun vw1 x l1 ok1 q1 v1 r1 => ?_⟩
    refine ⟨vw1, env, rfl, ok1, re.mono l1, (GQ.bind q1).imp fun vw2 y l2 ok2 q2 v2 r2 => ?_⟩
    split at q2
    · rename_i xs ys e1 e2
      split at q2
      · rename_i hl
        obtain ⟨p1, vs, rfl, h1, _, s1⟩ := lstOf_rel ok2 (l2.v r1) e1
        obtain ⟨p2, us, rfl, h2, _, s2⟩ := lstOf_rel ok2 r2 e2
        have hz : vs.length + us.length ≤ sizeLine := by rw [sizeLine_eq, ← s1.len, ← s2.len]; exact hl
        refine ⟨p1, p2, vs, us, rfl, rfl, h1, h2, hz, fun p hp => ?_⟩
        have l := Le.alloc (K := X.K) (o := .lst (vs ++ us)) (ob := .lst false (xs ++ ys)) ok2 hp
        exact q2 (vw2.alloc p (.lst (vs ++ us)) (.lst false (xs ++ ys))) l (VOk.alloc ok2 hp ⟨_, upd_same, by rw [List.length_append]; exact hz, l.ps (RelPs.app s1 s2)⟩) rfl _ vvNew
      · exact q2.elim
    · exact q2.elim
def rRepM (ra rb : RX) : RX := fun env st => (ra env st).bind fun x st1 => (rb env st1).bind fun y st2 => match lstOf st2 x, y with
  | some xs, .p (.int k) => if 0 ≤ k ∧ k < 2 ^ 63 ∧ xs.length * k.toNat ≤ 16777216 then .ok (.ref st2.length) (st2 ++ [some (.lst false (List.replicate k.toNat xs).flatten)]) else .no
  | _, _ => .no
theorem px_repM (ha : PX X G E a ra) (hb : PX X G E b rb) : PX X G E (.BinOp a .Mult b pos) (rRepM ra rb) :=
  (pe_op op_rep ha hb).weak fun σ H Q ⟨vw, env, eH, ok, re, q⟩ => by
    refine ⟨vw, env, eH, ok, re, (GQ.bind q).imp fun vw1 x l1 ok1 q1 v1 r1 => ?_⟩
    refine ⟨vw1, env, rfl, ok1, re.mono l1, (GQ.bind q1).imp fun vw2 y l2 ok2 q2 v2 r2 => ?_⟩
    split at q2
    · rename_i xs k e1
      split at q2
      · rename_i hl
        obtain ⟨h0, h63, hl⟩ := hl
        obtain ⟨p1, vs, rfl, h1, _, s1⟩ := lstOf_rel ok2 (l2.v r1) e1
        have rk := relInt.mp (show RelP X.w X.K G vw2.H vw2.Z (.int k) v2 from r2)
        subst rk
        have hz : vs.length * k.toNat ≤ sizeLine := by rw [sizeLine_eq, ← s1.len]; exact hl
        refine ⟨p1, k, vs, rfl, rfl, h1, by omega, h63, hz, fun p hp => ?_⟩
        have l := Le.alloc (K := X.K) (o := .lst (List.replicate k.toNat vs).flatten) (ob := .lst false (List.replicate k.toNat xs).flatten) ok2 hp
        exact q2 (vw2.alloc p _ (.lst false (List.replicate k.toNat xs).flatten)) l (VOk.alloc ok2 hp ⟨_, upd_same, by rw [PyProof.Rows.lm_len_rep_flat, Nat.mul_comm]; exact hz, l.ps (RelPs.rep s1 _)⟩) rfl _ vvNew
      · exact q2.elim
    · exact q2.elim
end
end Ev
end S_X36
section S_X37
open PySem PySem.Spec PyProof.Rows L2
namespace Ev
section
variable {X : Cx} {G : Nat → Addr} {E : WE} {a b tx ty : Expr} {t : RA} {pos pt pt2 : Pos} {kt k2 : Nat} {i j : Nat}
/-- a, b = x, y by a tuple in between -/
theorem pxs_parT (hc : X.calm = true) (h : PXA X G E [a, b] t) (hg1 : PXG X tx (.nm i)) (hg2 : PXG X ty (.nm j))
    (hs : swapsWithSole [.Tuple [tx, ty] kt pt] (.Tuple [a, b] k2 pt2) pos.line X.env = pure false := by rfl) (hw : swappedStores [.Tuple [tx, ty] kt pt] (.Tuple [a, b] k2 pt2) X.env = pure none := by rfl)
    (h1 : (assignEach [.Tuple [tx, ty] kt pt] X.env).map (·.2) = [assign (.Tuple [tx, ty] kt pt) X.env] := by rfl)
    (hs1 : (assignEach [tx, ty] X.env).map (·.2) = assign tx X.env :: (assignEach [ty] X.env).map (·.2) := by rfl) (hs2 : (assignEach [ty] X.env).map (·.2) = assign ty X.env :: (assignEach [] X.env).map (·.2) := by rfl)
    (hn : (assignEach [tx, ty] X.env).length = 2 := by rfl) (hst : (assignEach [tx, ty] X.env).findIdx? (·.1) = none := by rfl) :
    PXS X G E (.Assign [.Tuple [tx, ty] kt pt] (.Tuple [a, b] k2 pt2) pos) (sPar i j t) :=
  (ps_asg (pe_tup h) (pg_tup hc (pgs_cons hg1 (pgs_cons hg2 pgs_nil hs2) hs1) hn hst) hs hw h1).weak fun D σ H ⟨vw, env, eH, ok, re, q⟩ => by
    refine ⟨vw, env, eH, ok, re, (GS.bind q).imp fun vw1 xs l1 ok1 q1 vs rs => ?_⟩
    split at q1
    · rename_i x y
      obtain ⟨v, r, rfl, r1, v2, r', rfl, r2, rfl⟩ := rs
      split at q1
      · refine ⟨by show 2 ≤ sizeLine; decide, fun p hp => ?_⟩
        have l := Le.grow (K := X.K) (o := .tup [v, v2]) (zz := False) ok1 hp
        refine ⟨p, [v, v2], rfl, .inl (.inl upd_same), rfl, v, _, rfl, ?_⟩
        show gCons _ _ _ _ _ _
        refine ⟨v2, [], rfl, ?_⟩
        refine ⟨rfl, ?_⟩
        exact q1 (vw1.grow p (.tup [v, v2]) False) _ l (VOk.grow ok1 hp) rfl ((((re.mono l1).mono l).set (l.v r1)).set (l.v r2))
      · exact q1.elim
    · exact q1.elim
end
end Ev
end S_X37
section S_W1
open PySem PySem.Spec PyProof.Rows L2
namespace Ev
/-! words for the plain law: exceptions -/
section
variable {env e1 : EE} {st st1 st2 : Sto} {c : Nat} {us : List PV}
theorem call_exx {F : MF} {n : Nat} {t : RA} {xs : List VV} (h1 : t env st = .ok xs st1) (h : F xs st1 = .ex c us st2) (hn : xs.length = n := by rfl) : rCall (rArity n F) t env st = .ex c us st2 := by
  unfold rCall
  rw [h1]
  show rArity n F xs st1 = _
  unfold rArity
  rw [if_pos hn, h]
theorem expr_ex {r : RX} (h : r env st = .ex c us st1) : sExpr r env st = .ex c us env st1 := by unfold sExpr; rw [h]; rfl
theorem asg_ex {r : RX} {g : Tg} (h : r env st = .ex c us st1) : sAsg r g env st = .ex c us env st1 := by unfold sAsg; rw [h]; rfl
theorem ret_ex {r : RX} (h : r env st = .ex c us st1) : sRet r env st = .ex c us env st1 := by unfold sRet; rw [h]; rfl
theorem raise_of {k : Nat} {fs : List Str} {t : RA} {xs : List VV} {ys : List PV} (h : t env st = .ok xs st1) (h2 : toPs xs = some ys) (hl : ys.length = fs.length) : sRaise k fs t env st = .ex k [.ins k fs ys] env st1 := by
  unfold sRaise
  rw [h]
  show (match toPs xs with
    | some us => if us.length = fs.length then SRes.ex k [.ins k fs us] env st1 else .no
    | none => .no) = _
  rw [h2]
  exact if_pos hl
theorem sif_ex {ta : RT} {s s' : RS} (h : ta env st = .ok true st1) (h2 : s env st1 = .ex c us e1 st2) : sIf ta s s' env st = .ex c us e1 st2 := (sif_true h).trans h2
theorem told_ok {inf : Nat → Option (Str × List Str)} {r : RX} {z : PV} (h : r env st = .ok (.p z) st1) : rTold inf r env st = .ok (.p (.tup [.str "told", z])) st1 := by unfold rTold; rw [h]
theorem told_ex {inf : Nat → Option (Str × List Str)} {r : RX} {nm : Str} {fs : List Str} {ys : List PV} (h : r env st = .ex c [.ins c fs ys] st1) (hi : inf c = some (nm, fs)) : rTold inf r env st = .ok (.p (.tup (.str nm :: ys))) st1 := by
  unfold rTold
  rw [h]
  dsimp only
  rw [hi]
  exact if_pos ⟨rfl, rfl⟩
end
/-! texts of values: sizes -/
/-- x shows, in at most n signs, m deep -/
def Rok (x : PV) (n m : Nat) : Prop := ∃ d, x.toE = some d ∧ PyData.fits d = true ∧ d.depth ≤ m ∧ d.shown.length ≤ n
theorem Rok.mono {x : PV} {n m n' m' : Nat} (h : Rok x n m) (hn : n ≤ n') (hm : m ≤ m') : Rok x n' m' := let ⟨d, a, b, c, e⟩ := h; ⟨d, a, b, Nat.le_trans c hm, Nat.le_trans e hn⟩
theorem Rok.show {x : PV} {n m : Nat} (h : Rok x n m) (hn : n ≤ 16777216) (hm : m ≤ 100) : ∃ d, x.toE = some d ∧ showOk d = true := by
  obtain ⟨d, a, b, c, e⟩ := h
  refine ⟨d, a, ?_⟩
  unfold showOk
  rw [b, decide_eq_true (Nat.le_trans c hm), decide_eq_true (show d.shown.length ≤ sizeLine by rw [sizeLine_eq]; omega)]
  rfl
/-- closed values -/
def rokB (x : PV) (n m : Nat) : Bool := match x.toE with
  | some d => PyData.fits d && (decide (d.depth ≤ m) && decide (d.shown.length ≤ n))
  | none => false
theorem rok_of {x : PV} {n m : Nat} (h : rokB x n m = true) : Rok x n m := by
  unfold rokB at h
  split at h
  · rename_i d e
    simp only [Bool.and_eq_true, decide_eq_true_eq] at h
    exact ⟨d, e, h.1, h.2.1, h.2.2⟩
  · cases h
theorem roks {n m : Nat} : ∀ {xs : List PV}, (∀ x ∈ xs, Rok x n m) → ∃ ds, PV.toEs xs = some ds ∧ PyData.fitsAll ds = true ∧ PyData.depthAll ds ≤ m ∧ ds.length = xs.length ∧ ((PyData.shownAll ds).map (·.length)).sum ≤ xs.length * n ∧ (PyData.shownAll ds).length = xs.length
  | [], _ => ⟨[], by rw [PV.toEs], by rw [PyData.fitsAll], by rw [PyData.depthAll]; omega, rfl, by simp [PyData.shownAll], by simp [PyData.shownAll]⟩
  | x :: xs, h => by
    obtain ⟨d, e1, e2, e3, e4⟩ := h x List.mem_cons_self
    obtain ⟨ds, f1, f2, f3, f4, f5, f6⟩ := roks fun y hy => h y (List.mem_cons_of_mem _ hy)
    refine ⟨d :: ds, by rw [PV.toEs, e1, f1], by rw [PyData.fitsAll, e2, f2]; rfl, ?_, by simp [f4], ?_, by simp [PyData.shownAll, f6]⟩
    · rw [PyData.depthAll]
      exact Nat.max_le.mpr ⟨e3, f3⟩
    · rw [PyData.shownAll, List.map_cons, List.sum_cons, List.length_cons, Nat.add_mul]
      omega
theorem rok_tup {xs : List PV} {n m : Nat} (h : ∀ x ∈ xs, Rok x n m) : Rok (.tup xs) (xs.length * n + 2 * xs.length + 3) (m + 1) := by
  obtain ⟨ds, f1, f2, f3, f4, f5, f6⟩ := roks h
  refine ⟨.tuple ds, by rw [PV.toE, f1]; rfl, by rw [PyData.fits]; exact f2, by rw [PyData.depth]; omega, ?_⟩
  rw [PyData.shown]
  have := tupleText_len_le (PyData.shownAll ds)
  omega
theorem rok_lst {xs : List PV} {n m : Nat} (h : ∀ x ∈ xs, Rok x n m) : Rok (.lst xs) (xs.length * n + 2 * xs.length + 3) (m + 1) := by
  obtain ⟨ds, f1, f2, f3, f4, f5, f6⟩ := roks h
  refine ⟨.list ds, by rw [PV.toE, f1]; rfl, by rw [PyData.fits]; exact f2, by rw [PyData.depth]; omega, ?_⟩
  rw [PyData.shown]
  have := listText_len_le (PyData.shownAll ds)
  omega
theorem repr_of {x : PV} {d : PyData} (e : x.toE = some d) (f : showOk d = true) (st : Sto) : bRepr [.p x] st = .ok (.p (.str d.shown)) st := by
  unfold bRepr
  dsimp only
  rw [e]
  exact if_pos f
end Ev
end S_W1
section S_Z1
open PySem PySem.Spec PyProof.Rows L2
namespace Ev
/-! names' values as a function -/
abbrev NV := Nat → Option VV
def up (X : NV) (i : Nat) (x : Option VV) : NV := fun j => if j = i then x else X j
def EV (n : Nat) (X : NV) : EE := (List.range n).map X
/-- the names l have the same values -/
def Fr (l : List Nat) (X Y : NV) : Prop := ∀ i ∈ l, Y i = X i
theorem Fr.trans {l : List Nat} {X Y Z : NV} (a : Fr l X Y) (b : Fr l Y Z) : Fr l X Z := fun i h => (b i h).trans (a i h)
theorem Fr.rfl' {l : List Nat} {X : NV} : Fr l X X := fun _ _ => rfl
theorem Fr.sub {l m : List Nat} {X Y : NV} (a : Fr l X Y) (h : ∀ i ∈ m, i ∈ l) : Fr m X Y := fun i hi => a i (h i hi)
theorem Fr.at {l : List Nat} {X Y : NV} (a : Fr l X Y) {i : Nat} {x : Option VV} (h : X i = x) (hi : i ∈ l := by decide) : Y i = x := (a i hi).trans h
theorem up_ne {X : NV} {i j : Nat} {x : Option VV} (h : j ≠ i) : up X i x j = X j := if_neg h
theorem up_eq {X : NV} {i : Nat} {x : Option VV} : up X i x i = x := if_pos rfl
theorem Fr.up {l : List Nat} {X Y : NV} (a : Fr l X Y) (i : Nat) (x : Option VV) (h : i ∉ l := by decide) : Fr l X (up Y i x) := fun j hj => by
  rw [up_ne (fun e => h (by rw [← e]; exact hj))]
  exact a j hj
section
variable {n i j : Nat} {X : NV} {x : Option VV} {v w : VV} {st st1 st2 : Sto} {r : RX} {t : RA} {a b : PV}
theorem EV_len : (EV n X).length = n := by unfold EV; simp
theorem EV_get (h : i < n) : (EV n X)[i]? = some (X i) := by
  unfold EV
  rw [List.getElem?_map, List.getElem?_range h]
  rfl
theorem EV_set (h : i < n) : (EV n X).set i x = EV n (up X i x) := by
  apply List.ext_getElem?
  intro k
  by_cases hk : k < n
  · rw [EV_get hk]
    by_cases e : i = k
    · subst e
      rw [List.getElem?_set_self (by rw [EV_len]; exact h), up_eq]
    · rw [List.getElem?_set_ne e, EV_get hk, up_ne (Ne.symm e)]
  · rw [List.getElem?_eq_none (by rw [List.length_set, EV_len]; omega), List.getElem?_eq_none (by rw [EV_len]; omega)]
theorem EV_of {l : EE} (h : l.length = n) : EV n (fun i => l.getD i none) = l := by
  apply List.ext_getElem?
  intro k
  by_cases hk : k < n
  · rw [EV_get hk, List.getD_eq_getElem?_getD, List.getElem?_eq_getElem (by omega)]
    rfl
  · rw [List.getElem?_eq_none (by rw [EV_len]; omega), List.getElem?_eq_none (by omega)]
theorem vX (h : X i = some v) (hi : i < n := by exact Ev.lt rfl) : rVar i (EV n X) st = .ok v st := v_of (by rw [EV_get hi, h])
theorem asgX (h : r (EV n X) st = .ok v st1) (hi : i < n := by exact Ev.lt rfl) : sAsg r (.nm i) (EV n X) st = .nx (EV n (up X i (some v))) st1 := by
  rw [← EV_set hi]
  exact asg_nm h (by rw [EV_len]; exact hi)
theorem set1X (hi : i < n := by exact Ev.lt rfl) : (Tg.nm i).set v (EV n X) = some (EV n (up X i (some v))) := by
  rw [← EV_set hi]
  exact if_pos (by rw [EV_len]; exact hi)
theorem set2X (hi : i < n := by exact Ev.lt rfl) (hj : j < n := by exact Ev.lt rfl) : (Tg.cons (.nm i) (.cons (.nm j) .nil)).set (.p (.tup [a, b])) (EV n X) = some (EV n (up (up X i (some (.p a))) j (some (.p b)))) := by
  show ((Tg.nm i).set (.p a) (EV n X)).bind (fun e => ((Tg.nm j).set (.p b) e).bind fun e => some e) = _
  rw [set1X hi]
  show ((Tg.nm j).set (.p b) (EV n (up X i (some (.p a))))).bind (fun e => some e) = _
  rw [set1X hj]
  rfl
theorem asg2X (h : r (EV n X) st = .ok (.p (.tup [a, b])) st1) (hi : i < n := by exact Ev.lt rfl) (hj : j < n := by exact Ev.lt rfl) : sAsg r (.cons (.nm i) (.cons (.nm j) .nil)) (EV n X) st = .nx (EV n (up (up X i (some (.p a))) j (some (.p b)))) st1 := asg_of h (set2X hi hj)
theorem parX (h : t (EV n X) st = .ok [v, w] st1) (hi : i < n := by exact Ev.lt rfl) (hj : j < n := by exact Ev.lt rfl) : sPar i j t (EV n X) st = .nx (EV n (up (up X i (some v)) j (some w))) st1 := by
  unfold sPar
  rw [h]
  simp only [toS_ok']
  rw [if_pos ⟨by rw [EV_len]; exact hi, by rw [EV_len]; exact hj⟩, EV_set hi, EV_set hj]
theorem preX {k : Nat} {s : RS} {z : PV} (h : X i = some v) (hf : frzV k st v = some (z, st1)) (hi : i < n := by exact Ev.lt rfl) : sPre k i s (EV n X) st = s (EV n (up X i (some (.p z)))) st1 := by
  rw [← EV_set hi]
  unfold sPre
  rw [EV_get hi, h]
  dsimp only
  rw [hf]
theorem lcX {α : Type} {ri : RI} {t : RT} (ys : List α) (e : α → PV) (p : α → Bool) (f : α → PV) (hr : ri (EV n X) st = .ok (ys.map e) st1)
    (h : ∀ y ∈ ys, t (EV n (up X i (some (.p (e y))))) st1 = .ok (p y) st1 ∧ (p y = true → r (EV n (up X i (some (.p (e y))))) st1 = .ok (.p (f y)) st1)) (hl : ys.length ≤ 16777216) (hi : i < n := by exact Ev.lt rfl) :
    rLc [i] ri (.nm i) t r (EV n X) st = .ok (.p (.lst ((ys.filter p).map f))) st1 := lc_of ys e p f hr (by rw [EV_len]; exact hi) (fun y hy => by rw [EV_set hi]; exact h y hy) hl
theorem lcmX {α : Type} {ri : RI} (ys : List α) (e : α → PV) (f : α → PV) (hr : ri (EV n X) st = .ok (ys.map e) st1)
    (h : ∀ y ∈ ys, r (EV n (up X i (some (.p (e y))))) st1 = .ok (.p (f y)) st1) (hl : ys.length ≤ 16777216) (hi : i < n := by exact Ev.lt rfl) :
    rLc [i] ri (.nm i) rYes r (EV n X) st = .ok (.p (.lst (ys.map f))) st1 := lc_map ys e f hr (by rw [EV_len]; exact hi) (fun y hy => by rw [EV_set hi]; exact h y hy) hl
theorem wipe1X (hi : i < n) : wipeE (EV n X) [i] = EV n (up X i none) := EV_set hi
theorem up_up {y : Option VV} : up (up X i x) i y = up X i y := by
  funext k
  unfold up
  by_cases h : k = i
  · rw [if_pos h, if_pos h]
  · rw [if_neg h, if_neg h, if_neg h]
end
end Ev
end S_Z1
section S_L08
namespace K
open PySem PySem.Spec PyProof.Rows L2 Ev
abbrev P : Program := PySem.Challenge.pw_benchline_k08_whole_fewest_moves
def top (i : Nat) : Stmt := P.main.body.getD i (.Pass ⟨0, 0, 0, 0⟩)
abbrev c_BadBench : Nat := 0
abbrev c_BadNumber : Nat := 1
abbrev c_UnknownRule : Nat := 2
abbrev c_BadAsked : Nat := 3
abbrev c_BadValues : Nat := 4
abbrev c_BadPrices : Nat := 5
abbrev c_BadSold : Nat := 6
abbrev c_TooMany : Nat := 7
abbrev c_BadText : Nat := 8
abbrev c_BadLine : Nat := 9
abbrev c_Full : Nat := 10
abbrev c_BadClaim : Nat := 11
abbrev c_NothingDone : Nat := 12
abbrev c_BenchError : Nat := 13
abbrev c_Line : Nat := 14
abbrev s_is_whole : Stmt := top 2
abbrev s_is_within : Stmt := top 3
abbrev s_Line___init__ : Stmt := inClass (top 25) 0
abbrev s__law_alike : Stmt := top 41
abbrev s__law_all : Stmt := top 45
abbrev s__law_apart : Stmt := top 47
abbrev s__law_taken : Stmt := top 39
abbrev s__law_pick : Stmt := top 40
abbrev s__law_asked : Stmt := top 46
abbrev s__law_same : Stmt := top 42
abbrev s__law_seatings : Stmt := top 48
abbrev s_changes_of : Stmt := top 35
abbrev s_do_meet : Stmt := top 32
abbrev s_are_apart : Stmt := top 33
abbrev s_is_row : Stmt := top 4
abbrev s_is_stretch : Stmt := top 26
abbrev s_place_told : Stmt := top 6
abbrev s_require_asked : Stmt := top 31
abbrev s_is_seating : Stmt := top 34
abbrev s_reseatings : Stmt := top 36
abbrev s_fewest_moves : Stmt := top 37
abbrev s_law : Stmt := top 49
abbrev s__law_told : Stmt := top 44
abbrev s__law_refusal : Stmt := top 43
abbrev s_first_wrong : Stmt := top 5
abbrev s_BadNumber___init__ : Stmt := inClass (top 10) 0
abbrev s_BadAsked___init__ : Stmt := inClass (top 12) 0
abbrev isT := isB
def inf : Nat → Option (PySem.Str × List PySem.Str)
  | 1 => some ("BadNumber", ["value"])
  | 3 => some ("BadAsked", ["place"])
  | _ => none
def b_is_whole : RS := (sRet (rAndV (rCB (bIsi isT) (rCons (rVar 0) (rCons (rC (.ty "int")) rNil))) (rNotV (rCB (bIsi isT) (rCons (rVar 0) (rCons (rC (.ty "bool")) rNil))))))
def m_is_whole : MF := liftP (pureOf (fnM 1 b_is_whole))
def b_is_within : RS := (sRet (rAndV (rCall (rArity 1 (m_is_whole)) (rCons (rVar 0) rNil)) (rCh pLe pLe (rVar 1) (rVar 0) (rVar 2))))
def m_is_within : MF := liftP (pureOf (fnM 3 b_is_within))
def b_Line___init__ : RS := (sSeq (sIf (rNot (rTst (rCall (rArity 3 (m_is_within)) (rCons (rVar 1) (rCons (rC (.int 1)) (rCons (rC (.int 5)) rNil)))))) sNo sNil)
    (sSeq (sIf (rNot (rTst (rCall (rArity 3 (m_is_within)) (rCons (rVar 2) (rCons (rC (.int 1)) (rCons (rC (.int 4)) rNil)))))) sNo sNil)
    (sSeq (sFldR (fun c => c == 14) "legs" (rVar 0) (rVar 1))
    (sFldR (fun c => c == 14) "seats" (rVar 0) (rVar 2)))))
def m_Line___init__ : MF := fnM 3 b_Line___init__
def b__law_alike (F : MF) : RS := (sSeq (sIf (rTst (rCB (bIsi isT) (rCons (rVar 1) (rCons (rTup (rCons (rC (.ty "tuple")) (rCons (rC (.ty "list")) rNil))) rNil)))) (sSeq (sIf (rOr (rNot (rTst (rCB (bIsi isT) (rCons (rVar 0) (rCons (rTup (rCons (rC (.ty "tuple")) (rCons (rC (.ty "list")) rNil))) rNil))))) (rTst (r2 pNe (rCB (bIsi isT) (rCons (rVar 0) (rCons (rC (.ty "list")) rNil))) (rCB (bIsi isT) (rCons (rVar 1) (rCons (rC (.ty "list")) rNil)))))) (sRet (rC (.bl false))) sNil)
    (sSeq (sIf (rTst (r2 pNe (rCB bLen (rCons (rVar 0) rNil)) (rCB bLen (rCons (rVar 1) rNil)))) (sRet (rC (.bl false))) sNil)
    (sRet (r2 pEq (rLc [2] (rRange1 (rCons (rCB bLen (rCons (rVar 1) rNil)) rNil)) (.nm 2) (rNot (rTst (rCall (rArity 2 F) (rCons (r2s pIx (rVar 0) (rVar 2)) (rCons (r2s pIx (rVar 1) (rVar 2)) rNil))))) (rVar 2)) (rLst rNil))))) sNil)
    (sSeq (sIf (rOr (rTst (r2 (pIs false) (rVar 1) (rC .non))) (rTst (rCB (bIsi isT) (rCons (rVar 1) (rCons (rC (.ty "str")) rNil))))) (sRet (rAndV (r2 pEq (rVar 0) (rVar 1)) (r2 pEq (rCB (bIsi isT) (rCons (rVar 0) (rCons (rC (.ty "str")) rNil))) (rCB (bIsi isT) (rCons (rVar 1) (rCons (rC (.ty "str")) rNil)))))) sNil)
    (sRet (rAndV (rCB (bIsi isT) (rCons (rVar 0) (rCons (rC (.ty "int")) rNil))) (rAndV (r2 pEq (rCB (bIsi isT) (rCons (rVar 0) (rCons (rC (.ty "bool")) rNil))) (rCB (bIsi isT) (rCons (rVar 1) (rCons (rC (.ty "bool")) rNil)))) (r2 pEq (rVar 0) (rVar 1)))))))
def m__law_alike : Nat → MF
  | 0 => fun _ _ => .no
  | n + 1 => liftP (pureOf (fnM 3 (b__law_alike (m__law_alike n))))
def b__law_all : RS := (sSeq (sAsg (rLstM rNil) (.nm 1))
    (sSeq (sFor (rRange1 (rCons (rVar 0) rNil)) (.nm 2) (sExpr (rBM isL bExtend (rVar 1) (rCons (rLc [3] (rRange2 (rCons (r2 pAdd (rVar 2) (rC (.int 1))) (rCons (r2 pAdd (rVar 0) (rC (.int 1))) rNil))) (.nm 3) rYes (rTup (rCons (rVar 2) (rCons (rVar 3) rNil)))) rNil))))
    (sPre 4 1 (sRet (rVar 1)))))
def m__law_all : MF := liftP (pureOf (fnM 4 b__law_all))
def b__law_apart : RS := (sSeq (sFor (rRange1 (rCons (rCB bLen (rCons (rVar 0) rNil)) rNil)) (.nm 2) (sFor (rRange1 (rCons (rVar 2) rNil)) (.nm 3) (sIf (rAnd (rTst (r2 pEq (r2s pIx (rVar 1) (rVar 2)) (r2s pIx (rVar 1) (rVar 3)))) (rAnd (rTst (r2 pLt (r2s pIx (r2s pIx (rVar 0) (rVar 2)) (rC (.int 0))) (r2s pIx (r2s pIx (rVar 0) (rVar 3)) (rC (.int 1))))) (rTst (r2 pLt (r2s pIx (r2s pIx (rVar 0) (rVar 3)) (rC (.int 0))) (r2s pIx (r2s pIx (rVar 0) (rVar 2)) (rC (.int 1))))))) (sRet (rC (.bl false))) sNil)))
    (sRet (rC (.bl true))))
def m__law_apart : MF := liftP (pureOf (fnM 4 b__law_apart))
def b__law_taken : RS := (sSeq (sIf (rTst (r2 pGt (r2s pIx (rVar 0) (rC (.int 3))) (rC (.int 0)))) (sSeq (sAsg (r2 pMod (rCB bInt (rCons (r2s pIx (rVar 0) (rC (.int 3))) rNil)) (rVar 1)) (.nm 2))
    (sSeq (sPut (rVar 0) (rC (.int 3)) (r2 pDiv (r2s pIx (rVar 0) (rC (.int 3))) (rVar 1)))
    (sRet (rVar 2)))) sNil)
    (sSeq (sPut (rVar 0) (rC (.int 1)) (r2 pAdd (r2s pIx (rVar 0) (rC (.int 1))) (rC (.int 1))))
    (sSeq (sIf (rTst (r2 pGt (r2s pIx (rVar 0) (rC (.int 1))) (rCB bLen (rCons (r2s pIx (rVar 0) (rC (.int 0))) rNil)))) (sSeq (sPut (rVar 0) (rC (.int 2)) (r2 pMod (rCB bInt (rCons (r2 pAdd (r2 pMul (r2s pIx (rVar 0) (rC (.int 2))) (rC (.int 48271))) (rC (.int 11))) rNil)) (rC (.int 2147483647))))
    (sRet (r2 pMod (rCB bInt (rCons (r2 pDiv (r2s pIx (rVar 0) (rC (.int 2))) (rC (.int 7))) rNil)) (rVar 1)))) sNil)
    (sSeq (sAsg (r2s pIx (r2s pIx (rVar 0) (rC (.int 0))) (r2 pSub (r2s pIx (rVar 0) (rC (.int 1))) (rC (.int 1)))) (.nm 3))
    (sSeq (sPut (rVar 0) (rC (.int 2)) (r2 pMod (rCB bInt (rCons (r2 pAdd (r2 pAdd (r2 pMul (r2s pIx (rVar 0) (rC (.int 2))) (rC (.int 48271))) (rVar 3)) (rC (.int 11))) rNil)) (rC (.int 2147483647))))
    (sSeq (sIf (rTst (r2 pGe (rVar 3) (r2 pPow (rC (.int 10)) (rC (.int 18))))) (sSeq (sPut (rVar 0) (rC (.int 3)) (r2 pDiv (rVar 3) (rVar 1)))
    (sRet (r2 pMod (rCB bInt (rCons (rVar 3) rNil)) (rVar 1)))) sNil)
    (sRet (r2 pMod (rCB bInt (rCons (r2 pAdd (r2 pMul (r2 pMod (rCB bInt (rCons (rVar 3) rNil)) (rC (.int 1000003))) (rC (.int 31))) (r2 pDiv (r2s pIx (rVar 0) (rC (.int 2))) (rC (.int 11)))) rNil)) (rVar 1)))))))))
def m__law_taken : MF := gcOf (fnM 4 b__law_taken)
def b__law_pick : RS := (sRet (r2s pIx (rVar 1) (rCall (rArity 2 (m__law_taken)) (rCons (rVar 0) (rCons (rCB bLen (rCons (rVar 1) rNil)) rNil)))))
def m__law_pick : MF := gcOf (fnM 2 b__law_pick)
def b__law_asked : RS := (sSeq (sAsg (rTup (rCons (rCall (rArity 1 (m__law_all)) (rCons (rVar 1) rNil)) (rCons (rCall (rArity 2 (m__law_pick)) (rCons (rVar 0) (rCons (rLst (rCons (rC (.int 1)) (rCons (rC (.int 2)) (rCons (rC (.int 5)) rNil)))) rNil))) rNil))) (.cons (.nm 3) (.cons (.nm 4) .nil)))
    (sSeq (sAsg (rLc [6] (rItems (rVar 3)) (.nm 6) (rTst (r2 pLe (r2 pSub (r2s pIx (rVar 6) (rC (.int 1))) (r2s pIx (rVar 6) (rC (.int 0)))) (rVar 4))) (rVar 6)) (.nm 5))
    (sRet (rCB bTuple (rCons (rLc [7] (rRange1 (rCons (rCall (rArity 2 (m__law_taken)) (rCons (rVar 0) (rCons (r2 pAdd (rVar 2) (rC (.int 1))) rNil))) rNil)) (.nm 7) rYes (rCall (rArity 2 (m__law_pick)) (rCons (rVar 0) (rCons (rVar 5) rNil)))) rNil)))))
def m__law_asked : MF := gcOf (fnM 8 b__law_asked)
def b__law_same : RS := (sRet (r2 pEq (rCB bRepr (rCons (rVar 0) rNil)) (rCB bRepr (rCons (rVar 1) rNil))))
def m__law_same : MF := liftP (pureOf (fnM 2 b__law_same))
def b__law_seatings : RS := (sSeq (sAsg (rLst (rCons (rTup rNil) rNil)) (.nm 2))
    (sSeq (sFor (rRange1 (rCons (rCB bLen (rCons (rVar 0) rNil)) rNil)) (.nm 3) (sSeq (sAsg (rLstM rNil) (.nm 4))
    (sSeq (sFor (rItems (rVar 2)) (.nm 5) (sExpr (rBM isL bExtend (rVar 4) (rCons (rLc [6] (rRange1 (rCons (rVar 1) rNil)) (.nm 6) (rTst (rCall (rArity 2 (m__law_apart)) (rCons (rSl (rVar 0) rNoPart (rPart (r2 pAdd (rVar 3) (rC (.int 1))))) (rCons (r2 pAdd (rVar 5) (rTup (rCons (rVar 6) rNil))) rNil)))) (r2 pAdd (rVar 5) (rTup (rCons (rVar 6) rNil)))) rNil))))
    (sPre 4 4 (sAsg (rVar 4) (.nm 2))))))
    (sRet (rVar 2))))
def m__law_seatings : MF := liftP (pureOf (fnM 7 b__law_seatings))
def b_changes_of : RS := (sRet (rCB bLen (rCons (rLc [2] (rRange1 (rCons (rCB bLen (rCons (rVar 0) rNil)) rNil)) (.nm 2) (rTst (r2 pNe (r2s pIx (rVar 0) (rVar 2)) (r2s pIx (rVar 1) (rVar 2)))) (rVar 2)) rNil)))
def m_changes_of : MF := liftP (pureOf (fnM 3 b_changes_of))
def b_do_meet : RS := (sRet (rAndV (r2 pLt (r2s pIx (rVar 0) (rC (.int 0))) (r2s pIx (rVar 1) (rC (.int 1)))) (r2 pLt (r2s pIx (rVar 1) (rC (.int 0))) (r2s pIx (rVar 0) (rC (.int 1))))))
def m_do_meet : MF := liftP (pureOf (fnM 2 b_do_meet))
def b_are_apart : RS := (sSeq (sFor (rEnum (rCons (rVar 0) rNil)) (.cons (.nm 2) (.cons (.nm 3) .nil)) (sFor (rRange1 (rCons (rVar 2) rNil)) (.nm 4) (sIf (rAnd (rTst (r2 pEq (r2s pIx (rVar 1) (rVar 2)) (r2s pIx (rVar 1) (rVar 4)))) (rTst (rCall (rArity 2 (m_do_meet)) (rCons (rVar 3) (rCons (r2s pIx (rVar 0) (rVar 4)) rNil))))) (sRet (rC (.bl false))) sNil)))
    (sRet (rC (.bl true))))
def m_are_apart : MF := liftP (pureOf (fnM 5 b_are_apart))
def b_is_row : RS := (sRet (rAndV (rCB (bIsi isT) (rCons (rVar 0) (rCons (rC (.ty "tuple")) rNil))) (r2 pEq (rCB bLen (rCons (rVar 0) rNil)) (rVar 1))))
def m_is_row : MF := liftP (pureOf (fnM 2 b_is_row))
def b_is_stretch : RS := (sSeq (sIf (rOr (rNot (rTst (rCall (rArity 2 (m_is_row)) (rCons (rVar 1) (rCons (rC (.int 2)) rNil))))) (rNot (rTst (rCall (rArity 3 (m_is_within)) (rCons (r2s pIx (rVar 1) (rC (.int 0))) (rCons (rC (.int 0)) (rCons (r2 pSub (rFld (fun c => c == 14) "legs" (rVar 0)) (rC (.int 1))) rNil))))))) (sRet (rC (.bl false))) sNil)
    (sRet (rCall (rArity 3 (m_is_within)) (rCons (r2s pIx (rVar 1) (rC (.int 1))) (rCons (r2 pAdd (r2s pIx (rVar 1) (rC (.int 0))) (rC (.int 1))) (rCons (rFld (fun c => c == 14) "legs" (rVar 0)) rNil))))))
def m_is_stretch : MF := liftP (pureOf (fnM 2 b_is_stretch))
def b_place_told : RS := (sRet (rIf (rTst (r2 pEq (rVar 0) (r1 pNeg (rC (.int 1))))) (rC .non) (rVar 0)))
def m_place_told : MF := liftP (pureOf (fnM 1 b_place_told))
def b_require_asked : RS := (sSeq (sJudge 2 3 1 0 10 isT (rCall (rArity 2 (m_is_stretch)) (rCons (rVar 0) (rCons (rVar 4) rNil))))
    (sIf (rTst (r2 (pIs true) (rVar 3) (rC .non))) (sRaise 3 ["place"] (rCons (rCall (rArity 1 (m_place_told)) (rCons (rVar 3) rNil)) rNil)) sNil))
def m_require_asked : MF := liftP (pureOf (fnM 4 b_require_asked))
def b_is_seating : RS := (sSeq (sExpr (rCall (rArity 2 (m_require_asked)) (rCons (rVar 0) (rCons (rVar 1) rNil))))
    (sSeq (sIf (rNot (rTst (rCall (rArity 3 (m_is_within)) (rCons (rVar 2) (rCons (rC (.int 0)) (rCons (rC (.int 10)) rNil)))))) (sRaise 1 ["value"] (rCons (rVar 2) rNil)) sNil)
    (sSeq (sIf (rOr (rNot (rTst (rCB (bIsi isT) (rCons (rVar 3) (rCons (rC (.ty "tuple")) rNil))))) (rTst (r2 pNe (rCB bLen (rCons (rVar 3) rNil)) (rCB bLen (rCons (rVar 1) rNil))))) (sRet (rC (.bl false))) sNil)
    (sRet (rAndV (rCB bAll (rCons (rLc [4] (rItems (rVar 3)) (.nm 4) rYes (rAndV (rCall (rArity 1 (m_is_whole)) (rCons (rVar 4) rNil)) (rCh pLe pLt (rC (.int 0)) (rVar 4) (rVar 2)))) rNil)) (rCall (rArity 2 (m_are_apart)) (rCons (rVar 1) (rCons (rVar 3) rNil))))))))
def m_is_seating : MF := liftP (pureOf (fnM 5 b_is_seating))
def b_reseatings : RS := (sSeq (sAsg (rLst (rCons (rTup rNil) rNil)) (.nm 2))
    (sSeq (sFor (rRange1 (rCons (rCB bLen (rCons (rVar 0) rNil)) rNil)) (.nm 3) (sSeq (sAsg (rLstM rNil) (.nm 4))
    (sSeq (sFor (rItems (rVar 2)) (.nm 5) (sExpr (rBM isL bExtend (rVar 4) (rCons (rLc [6] (rRange1 (rCons (rVar 1) rNil)) (.nm 6) (rTst (rCall (rArity 2 (m_are_apart)) (rCons (rSl (rVar 0) rNoPart (rPart (r2 pAdd (rVar 3) (rC (.int 1))))) (rCons (r2 pAdd (rVar 5) (rTup (rCons (rVar 6) rNil))) rNil)))) (r2 pAdd (rVar 5) (rTup (rCons (rVar 6) rNil)))) rNil))))
    (sPre 4 4 (sAsg (rVar 4) (.nm 2))))))
    (sRet (rVar 2))))
def m_reseatings : MF := liftP (pureOf (fnM 7 b_reseatings))
def b_fewest_moves : RS := (sSeq (sExpr (rCall (rArity 2 (m_require_asked)) (rCons (rVar 0) (rCons (rVar 1) rNil))))
    (sSeq (sIf (rTst (r2 pGt (rCB bLen (rCons (rVar 1) rNil)) (rC (.int 7)))) (sRaise 3 ["place"] (rCons (rC .non) rNil)) sNil)
    (sSeq (sIf (rNot (rTst (rCall (rArity 3 (m_is_within)) (rCons (rVar 3) (rCons (rC (.int 1)) (rCons (rC (.int 4)) rNil)))))) (sRaise 1 ["value"] (rCons (rVar 3) rNil)) sNil)
    (sSeq (sIf (rOr (rTst (r2 pEq (rVar 1) (rTup rNil))) (rNot (rTst (rCall (rArity 4 (m_is_seating)) (rCons (rVar 0) (rCons (rSl (rVar 1) rNoPart (rPart (r1 pNeg (rC (.int 1))))) (rCons (rVar 3) (rCons (rVar 2) rNil)))))))) (sRaise 1 ["value"] (rCons (rC .non) rNil)) sNil)
    (sSeq (sAsg (rLc [5] (rItems (rCall (rArity 2 (m_reseatings)) (rCons (rVar 1) (rCons (rVar 3) rNil)))) (.nm 5) rYes (rTup (rCons (rCall (rArity 2 (m_changes_of)) (rCons (rVar 2) (rCons (rVar 5) rNil))) (rCons (rVar 5) rNil)))) (.nm 4))
    (sRet (rIf (rTst (r2 pNe (rVar 4) (rLst rNil))) (rCB bMinD (rCons (rVar 4) rNil)) (rC .non))))))))
def m_fewest_moves : MF := liftP (pureOf (fnM 6 b_fewest_moves))
def b_law : RS := (sSeq (sAsg (rLstM (rCons (rVar 0) (rCons (rC (.int 0)) (rCons (rC (.int 8181)) (rCons (rC (.int 0)) rNil))))) (.nm 1))
    (sSeq (sFor (rRange1 (rCons (rC (.int 3)) rNil)) (.nm 2) (sSeq (sAsg (rTup (rCons (r2 pAdd (rC (.int 1)) (rCall (rArity 2 (m__law_taken)) (rCons (rVar 1) (rCons (rC (.int 5)) rNil)))) (rCons (r2 pAdd (rC (.int 1)) (rCall (rArity 2 (m__law_taken)) (rCons (rVar 1) (rCons (rC (.int 4)) rNil)))) rNil))) (.cons (.nm 3) (.cons (.nm 4) .nil)))
    (sSeq (sAsg (rTup (rCons (rFrz 8 (rMake 14 (rArity 3 (m_Line___init__)) (rCons (rVar 3) (rCons (rC (.int 1)) rNil)))) (rCons (rCall (rArity 3 (m__law_asked)) (rCons (rVar 1) (rCons (rVar 3) (rCons (rCall (rArity 2 (m__law_pick)) (rCons (rVar 1) (rCons (rLst (rCons (rC (.int 4)) (rCons (rC (.int 6)) rNil))) rNil))) rNil)))) rNil))) (.cons (.nm 5) (.cons (.nm 6) .nil)))
    (sSeq (sAsg (rTup (rCons (rTup rNil) (rCons (rTup rNil) rNil))) (.cons (.nm 7) (.cons (.nm 8) .nil)))
    (sSeq (sFor (rItems (rVar 6)) (.nm 9) (sSeq (sAsg (rLc [11] (rRange1 (rCons (rVar 4) rNil)) (.nm 11) (rTst (rCall (rArity 2 (m__law_apart)) (rCons (r2 pAdd (rVar 8) (rTup (rCons (rVar 9) rNil))) (rCons (r2 pAdd (rVar 7) (rTup (rCons (rVar 11) rNil))) rNil)))) (rVar 11)) (.nm 10))
    (sIf (rTst (r2 pNe (rVar 10) (rLst rNil))) (sAsg (rTup (rCons (r2 pAdd (rVar 8) (rTup (rCons (rVar 9) rNil))) (rCons (r2 pAdd (rVar 7) (rTup (rCons (rCall (rArity 2 (m__law_pick)) (rCons (rVar 1) (rCons (rVar 10) rNil))) rNil))) rNil))) (.cons (.nm 8) (.cons (.nm 7) .nil))) sNil)))
    (sSeq (sAsg (r2 pAdd (rVar 8) (rTup (rCons (rCall (rArity 2 (m__law_pick)) (rCons (rVar 1) (rCons (rCall (rArity 1 (m__law_all)) (rCons (rVar 3) rNil)) rNil))) rNil))) (.nm 12))
    (sSeq (sAsg (rLc [9] (rItems (rCall (rArity 2 (m__law_seatings)) (rCons (rVar 12) (rCons (rVar 4) rNil)))) (.nm 9) rYes (rTup (rCons (rCB bLen (rCons (rLc [14] (rRange1 (rCons (rCB bLen (rCons (rVar 7) rNil)) rNil)) (.nm 14) (rTst (r2 pNe (r2s pIx (rVar 7) (rVar 14)) (r2s pIx (rVar 9) (rVar 14)))) (rVar 14)) rNil)) (rCons (rVar 9) rNil)))) (.nm 13))
    (sSeq (sIf (rNot (rTst (rCall (rArity 2 (m__law_alike 6)) (rCons (rCall (rArity 4 (m_fewest_moves)) (rCons (rVar 5) (rCons (rVar 12) (rCons (rVar 7) (rCons (rVar 4) rNil))))) (rCons (rIf (rTst (r2 pNe (rVar 13) (rLst rNil))) (rCB bMinD (rCons (rVar 13) rNil)) (rC .non)) rNil))))) (sRet (rC (.bl false))) sNil)
    (sSeq (sAsg (rCall (rArity 2 (m__law_pick)) (rCons (rVar 1) (rCons (rLst (rCons (rC (.int 0)) (rCons (rC (.int 5)) (rCons (rC .non) (rCons (rC (.bl true)) rNil))))) rNil))) (.nm 15))
    (sSeq (sAsg (rCall (rArity 2 (m__law_pick)) (rCons (rVar 1) (rCons (rLst (rCons (rC .non) (rCons (rCB bList (rCons (rVar 7) rNil)) (rCons (r2 pAdd (rVar 7) (rTup (rCons (rC (.int 0)) rNil))) (rCons (rIf (rTst (r2 pNe (rVar 7) (rTup rNil))) (r2 pMul (rTup (rCons (rC (.int 9)) rNil)) (rCB bLen (rCons (rVar 7) rNil))) (rC (.int 1))) (rCons (rC (.int 7)) (rCons (r2 pMul (rTup (rCons (rC (.int 0)) rNil)) (r2 pAdd (rCB bLen (rCons (rVar 7) rNil)) (rC (.int 2)))) rNil))))))) rNil))) (.nm 16))
    (sSeq (sAsg (rLst (rCons (rTold inf (rCall (rArity 4 (m_fewest_moves)) (rCons (rVar 5) (rCons (rVar 12) (rCons (rVar 7) (rCons (rVar 15) rNil)))))) (rCons (rTold inf (rCall (rArity 4 (m_fewest_moves)) (rCons (rVar 5) (rCons (rVar 12) (rCons (rVar 16) (rCons (rVar 4) rNil)))))) (rCons (rTold inf (rCall (rArity 4 (m_fewest_moves)) (rCons (rVar 5) (rCons (rTup rNil) (rCons (rTup rNil) (rCons (rVar 4) rNil)))))) rNil)))) (.nm 17))
    (sSeq (sAsg (r2 pAdd (rVar 17) (rLst (rCons (rTold inf (rCall (rArity 4 (m_fewest_moves)) (rCons (rVar 5) (rCons (r2 pMul (rTup (rCons (rTup (rCons (rC (.int 0)) (rCons (rC (.int 1)) rNil))) rNil)) (rC (.int 8))) (rCons (rC (.int 1)) (rCons (r1 pNeg (rC (.int 1))) rNil)))))) (rCons (rTold inf (rCall (rArity 4 (m_fewest_moves)) (rCons (rVar 5) (rCons (rC .non) (rCons (rC (.int 1)) (rCons (r1 pNeg (rC (.int 1))) rNil)))))) rNil)))) (.nm 17))
    (sSeq (sAsg (r2 pAdd (rVar 17) (rLst (rCons (rTold inf (rCall (rArity 4 (m_fewest_moves)) (rCons (rVar 5) (rCons (r2 pAdd (rVar 12) (rTup (rCons (rTup (rCons (rC (.int 0)) (rCons (rC (.int 0)) rNil))) rNil))) (rCons (rVar 7) (rCons (rVar 4) rNil)))))) rNil))) (.nm 17))
    (sSeq (sAsg (rLst (rCons (rTup (rCons (rC (.str "BadNumber")) (rCons (rVar 15) rNil))) (rCons (rTup (rCons (rC (.str "BadNumber")) (rCons (rC .non) rNil))) (rCons (rTup (rCons (rC (.str "BadNumber")) (rCons (rC .non) rNil))) (rCons (rTup (rCons (rC (.str "BadAsked")) (rCons (rC .non) rNil))) (rCons (rTup (rCons (rC (.str "BadAsked")) (rCons (rC .non) rNil))) (rCons (rTup (rCons (rC (.str "BadAsked")) (rCons (rCB bLen (rCons (rVar 12) rNil)) rNil))) rNil))))))) (.nm 18))
    (sIf (rNot (rTst (rCall (rArity 2 (m__law_same)) (rCons (rVar 17) (rCons (rVar 18) rNil))))) (sRet (rC (.bl false))) sNil)))))))))))))))
    (sRet (rC (.bl true)))))
def m_law : MF := liftP (pureOf (fnM 19 b_law))
def d_is_whole : He.DefD := ⟨("is_whole", none), "is_whole", "is_whole", defArgs s_is_whole, defBody s_is_whole, defScope s_is_whole, [], []⟩
def d_is_within : He.DefD := ⟨("is_within", none), "is_within", "is_within", defArgs s_is_within, defBody s_is_within, defScope s_is_within, [], []⟩
def d_Line___init__ : He.DefD := ⟨("Line", some "__init__"), "__init__", "Line.__init__", defArgs s_Line___init__, defBody s_Line___init__, defScope s_Line___init__, [], []⟩
def d__law_alike : He.DefD := ⟨("_law_alike", none), "_law_alike", "_law_alike", defArgs s__law_alike, defBody s__law_alike, defScope s__law_alike, [], []⟩
def d__law_all : He.DefD := ⟨("_law_all", none), "_law_all", "_law_all", defArgs s__law_all, defBody s__law_all, defScope s__law_all, [], []⟩
def d__law_apart : He.DefD := ⟨("_law_apart", none), "_law_apart", "_law_apart", defArgs s__law_apart, defBody s__law_apart, defScope s__law_apart, [], []⟩
def d__law_taken : He.DefD := ⟨("_law_taken", none), "_law_taken", "_law_taken", defArgs s__law_taken, defBody s__law_taken, defScope s__law_taken, [], []⟩
def d__law_pick : He.DefD := ⟨("_law_pick", none), "_law_pick", "_law_pick", defArgs s__law_pick, defBody s__law_pick, defScope s__law_pick, [], []⟩
def d__law_asked : He.DefD := ⟨("_law_asked", none), "_law_asked", "_law_asked", defArgs s__law_asked, defBody s__law_asked, defScope s__law_asked, [], []⟩
def d__law_same : He.DefD := ⟨("_law_same", none), "_law_same", "_law_same", defArgs s__law_same, defBody s__law_same, defScope s__law_same, [], []⟩
def d__law_seatings : He.DefD := ⟨("_law_seatings", none), "_law_seatings", "_law_seatings", defArgs s__law_seatings, defBody s__law_seatings, defScope s__law_seatings, [], []⟩
def d_changes_of : He.DefD := ⟨("changes_of", none), "changes_of", "changes_of", defArgs s_changes_of, defBody s_changes_of, defScope s_changes_of, [], []⟩
def d_do_meet : He.DefD := ⟨("do_meet", none), "do_meet", "do_meet", defArgs s_do_meet, defBody s_do_meet, defScope s_do_meet, [], []⟩
def d_are_apart : He.DefD := ⟨("are_apart", none), "are_apart", "are_apart", defArgs s_are_apart, defBody s_are_apart, defScope s_are_apart, [], []⟩
def d_is_row : He.DefD := ⟨("is_row", none), "is_row", "is_row", defArgs s_is_row, defBody s_is_row, defScope s_is_row, [], []⟩
def d_is_stretch : He.DefD := ⟨("is_stretch", none), "is_stretch", "is_stretch", defArgs s_is_stretch, defBody s_is_stretch, defScope s_is_stretch, [], []⟩
def d_place_told : He.DefD := ⟨("place_told", none), "place_told", "place_told", defArgs s_place_told, defBody s_place_told, defScope s_place_told, [], []⟩
def d_require_asked : He.DefD := ⟨("require_asked", none), "require_asked", "require_asked", defArgs s_require_asked, defBody s_require_asked, defScope s_require_asked, [], []⟩
def d_is_seating : He.DefD := ⟨("is_seating", none), "is_seating", "is_seating", defArgs s_is_seating, defBody s_is_seating, defScope s_is_seating, [], []⟩
def d_reseatings : He.DefD := ⟨("reseatings", none), "reseatings", "reseatings", defArgs s_reseatings, defBody s_reseatings, defScope s_reseatings, [], []⟩
def d_fewest_moves : He.DefD := ⟨("fewest_moves", none), "fewest_moves", "fewest_moves", defArgs s_fewest_moves, defBody s_fewest_moves, defScope s_fewest_moves, [], []⟩
def d_law : He.DefD := ⟨("law", none), "law", "law", defArgs s_law, defBody s_law, defScope s_law, [], []⟩
def d__law_told : He.DefD := ⟨("_law_told", none), "_law_told", "_law_told", defArgs s__law_told, defBody s__law_told, defScope s__law_told, [], []⟩
def d__law_refusal : He.DefD := ⟨("_law_refusal", none), "_law_refusal", "_law_refusal", defArgs s__law_refusal, defBody s__law_refusal, defScope s__law_refusal, [], []⟩
def d_first_wrong : He.DefD := ⟨("first_wrong", none), "first_wrong", "first_wrong", defArgs s_first_wrong, defBody s_first_wrong, defScope s_first_wrong, [], []⟩
def d_BadNumber___init__ : He.DefD := ⟨("BadNumber", some "__init__"), "__init__", "BadNumber.__init__", defArgs s_BadNumber___init__, defBody s_BadNumber___init__, defScope s_BadNumber___init__, [], []⟩
def d_BadAsked___init__ : He.DefD := ⟨("BadAsked", some "__init__"), "__init__", "BadAsked.__init__", defArgs s_BadAsked___init__, defBody s_BadAsked___init__, defScope s_BadAsked___init__, [], []⟩
def fn : List He.DefD := [d_is_whole, d_is_within, d_Line___init__, d__law_alike, d__law_all, d__law_apart, d__law_taken, d__law_pick, d__law_asked, d__law_same, d__law_seatings, d_changes_of, d_do_meet, d_are_apart, d_is_row, d_is_stretch, d_place_told, d_require_asked, d_is_seating, d_reseatings, d_fewest_moves, d_law, d__law_told, d__law_refusal, d_first_wrong]
def fx : List He.DefD := [d_BadNumber___init__, d_BadAsked___init__]
def tf : List He.Defn := [("law", none), ("require_asked", none)]
def fa0 : List He.Fa := [.free "int", .free "isinstance", .free "bool", .glo "is_whole", .int "MOST_LEGS" 5, .glo "is_within", .int "MOST_SEATS_lines" 4, .free "tuple", .free "list", .free "len", .free "range", .glo "_law_alike", .free "str", .glo "_law_taken", .glo "_law_all", .glo "_law_pick", .free "repr", .glo "_law_apart", .free "enumerate", .glo "do_meet", .glo "is_row", .glo "is_stretch", .int "MOST_ASKED" 10, .glo "place_told", .glo "BadAsked", .glo "first_wrong", .glo "require_asked", .int "MOST_SEATS_asked" 10, .glo "BadNumber", .free "all"]
def fa1 : List He.Fa := [.glo "are_apart", .int "MOST_MOVED" 7, .glo "is_seating", .glo "reseatings", .glo "changes_of", .free "min", .mkr "Line", .glo "Line", .glo "_law_asked", .glo "_law_seatings", .glo "fewest_moves", .glo "_law_same", .glo "BadBench", .glo "UnknownRule", .glo "BadValues", .glo "BadPrices", .glo "BadSold", .glo "TooMany", .glo "BadText", .glo "BadLine", .glo "Full", .glo "BadClaim", .glo "NothingDone", .free "ValueError", .cls "Line", .noat "Line" "legs", .noat "Line" "seats", .glo "_law_told", .glo "_law_refusal", .glo "BenchError"]
def fa2 : List He.Fa := [.glo "law"]
def fa : List He.Fa := fa0 ++ fa1 ++ fa2
def Gc (K : PySem.W.Frag) : Nat → Addr
  | 0 => He.ga K "BadBench"
  | 1 => He.ga K "BadNumber"
  | 2 => He.ga K "UnknownRule"
  | 3 => He.ga K "BadAsked"
  | 4 => He.ga K "BadValues"
  | 5 => He.ga K "BadPrices"
  | 6 => He.ga K "BadSold"
  | 7 => He.ga K "TooMany"
  | 8 => He.ga K "BadText"
  | 9 => He.ga K "BadLine"
  | 10 => He.ga K "Full"
  | 11 => He.ga K "BadClaim"
  | 12 => He.ga K "NothingDone"
  | 13 => He.ga K "BenchError"
  | 14 => He.ga K "Line"
  | 1000 => (He.cT K ("law", none)).2 + 1
  | 1001 => (He.cT K ("require_asked", none)).2 + 1
  | k => if 10000 ≤ k then k - 10000 else 0
theorem hGa {K : PySem.W.Frag} : ∀ a, Gc K (10000 + a) = a := fun a => by
  unfold Gc
  split
  all_goals first | (exfalso; omega) | skip
  rw [if_pos (Nat.le_add_right _ _), Nat.add_sub_cancel_left]
structure TBs (K : PySem.W.Frag) (mg : Str → Option Value) (base : Heap) : Prop where
  law : LamX.TabB base mg (He.cT K ("law", none)).1 (He.cT K ("law", none)).2
  require_asked : LamX.TabB base mg (He.cT K ("require_asked", none)).1 (He.cT K ("require_asked", none)).2
theorem lamQ_law : (("law" : Str) ++ ".<locals>.") ++ "<lambda>" = ("law.<locals>.<lambda>" : Str) := by decide +kernel
theorem lamQ_require_asked : (("require_asked" : Str) ++ ".<locals>.") ++ "<lambda>" = ("require_asked.<locals>.<lambda>" : Str) := by decide +kernel
theorem isOk {K : PySem.W.Frag} : IsT K (Gc K) isT := isB_ok
def ex (K : PySem.W.Frag) : Bool := true && supB P K "BadNumber" "BadNumber.__init__" ["value"] && supB P K "BadAsked" "BadAsked.__init__" ["place"] && infB K (Gc K) 1 13 ["value"] (He.ga K "BenchError") && infB K (Gc K) 3 13 ["place"] (He.ga K "BenchError") && decide ((He.cT K ("law", none)).2 ≠ (He.cT K ("require_asked", none)).2)
structure TT (K : PySem.W.Frag) (mg : Str → Option Value) : Prop where
  h : ∃ h : Heap, K.In h ∧ h.Ns mainGlobals mg
  c : He.SaysD fa fn K
  q : fx.map (fun d => fnC K d.at_) = fx.map valC
  x : ex K = true
section
variable {w : World} {K : PySem.W.Frag} {mg : Str → Option Value} {base : Heap}
theorem TT.glo (T : TT K mg) (i : Nat) {x : Str} (e : fa[i]? = some (.glo x)) : mg x = some (.ref (He.ga K x)) := let ⟨_, X, G⟩ := T.h; He.glo_ok X G (T.c.fact i e)
theorem TT.free (T : TT K mg) (i : Nat) {x : Str} (e : fa[i]? = some (.free x)) : mg x = none := let ⟨_, X, G⟩ := T.h; He.free_ok X G (T.c.fact i e)
theorem TT.int (T : TT K mg) (i : Nat) {x : Str} {z : Int} (e : fa[i]? = some (.int x z)) : ∃ t, mg x = some (.int z t) := let ⟨_, X, G⟩ := T.h; He.int_ok X G (T.c.fact i e)
theorem TT.str (T : TT K mg) (i : Nat) {x z : Str} (e : fa[i]? = some (.str x z)) : ∃ t, mg x = some (.str z t) := let ⟨_, X, G⟩ := T.h; He.str_ok X G (T.c.fact i e)
theorem TT.cls (T : TT K mg) (i : Nat) {x : Str} (e : fa[i]? = some (.cls x)) : Cls K (He.ga K x) := He.cls_ok (T.c.fact i e)
theorem TT.noat (T : TT K mg) (i : Nat) {x f : Str} (e : fa[i]? = some (.noat x f)) : NoAttr K (He.ga K x) f := He.noat_ok (T.c.fact i e)
theorem TT.meth (T : TT K mg) (i : Nat) {x f : Str} (e : fa[i]? = some (.meth x f)) : Meth K (He.ga K x) f (He.ma K (He.ga K x) f) := He.meth_ok (T.c.fact i e)
theorem TT.mkr (T : TT K mg) (i : Nat) {x : Str} (e : fa[i]? = some (.mkr x)) : Mk K (He.ga K x) (He.ma K (He.ga K x) "__init__") := He.mkr_ok (T.c.fact i e)
theorem TT.cl (T : TT K mg) (i : Nat) {d : He.DefD} (e : fx[i]? = some d) : fnC K d.at_ = valC d := by
  have e1 : (fx.map fun d => fnC K d.at_)[i]? = (fx.map valC)[i]? := by rw [T.q]
  rw [List.getElem?_map, List.getElem?_map, e] at e1
  exact Option.some.inj e1
theorem TT.co_Line_legs (T : TT K mg) : ∀ c, (c == 14) = true → Cls K (Gc K c) ∧ NoAttr K (Gc K c) "legs" := fun c h => by
  have e : c = 14 := by simpa using h
  subst e
  exact ⟨T.cls 54 rfl, T.noat 55 rfl⟩
theorem TT.co_Line_seats (T : TT K mg) : ∀ c, (c == 14) = true → Cls K (Gc K c) ∧ NoAttr K (Gc K c) "seats" := fun c h => by
  have e : c = 14 := by simpa using h
  subst e
  exact ⟨T.cls 54 rfl, T.noat 56 rfl⟩
theorem TT.tne_0_1 (T : TT K mg) : (He.cT K ("law", none)).2 ≠ (He.cT K ("require_asked", none)).2 := of_decide_eq_true (by
  have h := T.x
  unfold ex at h
  simp only [Bool.and_eq_true] at h
  exact h.2)
theorem TT.hu_law (T : TT K mg) : ∀ k q, lamNames[k]? = some q → Gc K (1000 + k) = (He.cT K ("law", none)).2 + 1 → q = ("law.<locals>.<lambda>" : Str) := fun k q e g => by
  have hk : k < 4 := (List.getElem?_eq_some_iff.mp e).1
  have : k = 0 ∨ k = 1 ∨ k = 2 ∨ k = 3 := by omega
  rcases this with rfl | rfl | rfl | rfl
  · cases e; rfl
  · exact absurd (Nat.succ.inj g) (Ne.symm T.tne_0_1)
  · exact absurd (show 0 = _ + 1 from g) (fun z => Nat.succ_ne_zero _ z.symm)
  · exact absurd (show 0 = _ + 1 from g) (fun z => Nat.succ_ne_zero _ z.symm)
theorem TT.hu_require_asked (T : TT K mg) : ∀ k q, lamNames[k]? = some q → Gc K (1000 + k) = (He.cT K ("require_asked", none)).2 + 1 → q = ("require_asked.<locals>.<lambda>" : Str) := fun k q e g => by
  have hk : k < 4 := (List.getElem?_eq_some_iff.mp e).1
  have : k = 0 ∨ k = 1 ∨ k = 2 ∨ k = 3 := by omega
  rcases this with rfl | rfl | rfl | rfl
  · exact absurd (Nat.succ.inj g) T.tne_0_1
  · cases e; rfl
  · exact absurd (show 0 = _ + 1 from g) (fun z => Nat.succ_ne_zero _ z.symm)
  · exact absurd (show 0 = _ + 1 from g) (fun z => Nat.succ_ne_zero _ z.symm)
theorem supT_BadNumber : SupT P d_BadNumber___init__ ["value"] := ⟨rfl, by kernel_rfl, { v := "value", fld := "value", pa := _, pb := _, pc := _, pd := _ }, [], "self", _, _, _, _, _, _, _, _, _, _, ⟨by decide +kernel, by decide +kernel, by decide +kernel, by decide +kernel, by decide +kernel, by decide +kernel, by decide +kernel⟩, rfl, rfl, rfl, by decide, fun L f cda cc => rfl, by decide, fun kV doc pm an cdv ct cc us hl => (match us, hl with | [_, _], _ => rfl), by decide, by decide, rfl, by decide⟩
theorem TT.sup_BadNumber (T : TT K mg) : SupC P K (Gc K 1) ["value"] := supC_of (d := d_BadNumber___init__) rfl (T.cl 0 rfl) (by
  have h := T.x
  unfold ex at h
  simp only [Bool.and_eq_true] at h
  exact h.1.1.1.1.2) supT_BadNumber
theorem supT_BadAsked : SupT P d_BadAsked___init__ ["place"] := ⟨rfl, by kernel_rfl, { v := "place", fld := "place", pa := _, pb := _, pc := _, pd := _ }, [], "self", _, _, _, _, _, _, _, _, _, _, ⟨by decide +kernel, by decide +kernel, by decide +kernel, by decide +kernel, by decide +kernel, by decide +kernel, by decide +kernel⟩, rfl, rfl, rfl, by decide, fun L f cda cc => rfl, by decide, fun kV doc pm an cdv ct cc us hl => (match us, hl with | [_, _], _ => rfl), by decide, by decide, rfl, by decide⟩
theorem TT.sup_BadAsked (T : TT K mg) : SupC P K (Gc K 3) ["place"] := supC_of (d := d_BadAsked___init__) rfl (T.cl 1 rfl) (by
  have h := T.x
  unfold ex at h
  simp only [Bool.and_eq_true] at h
  exact h.1.1.1.2) supT_BadAsked
theorem TT.inf_BadNumber (T : TT K mg) : infB K (Gc K) 1 13 ["value"] (He.ga K "BenchError") = true := by
  have h := T.x
  unfold ex at h
  simp only [Bool.and_eq_true] at h
  exact h.1.1.2
theorem TT.exk_BadNumber (T : TT K mg) : ExK K (Gc K 1) := exkB_ok (band T.inf_BadNumber).1
theorem TT.isc_BadNumber (T : TT K mg) : isCls K (Gc K) 1 13 = true := (band (band T.inf_BadNumber).2).1
def h_BadNumber (F0 F1 : PV) : RS := (sSeq (sAsg (rLst (rCons (rC (.str "BadBench")) (rCons (rC (.str "BadNumber")) (rCons (rC (.str "UnknownRule")) (rCons (rC (.str "BadAsked")) (rCons (rC (.str "BadValues")) (rCons (rC (.str "BadPrices")) (rCons (rC (.str "BadSold")) (rCons (rC (.str "TooMany")) (rCons (rC (.str "BadText")) (rCons (rC (.str "BadLine")) (rCons (rC (.str "Full")) (rCons (rC (.str "BadClaim")) (rCons (rC (.str "NothingDone")) rNil)))))))))))))) (.nm 1))
    (sSeq (sAsg (rLst (rCons (rCB (bIsC 1 2000 13) (rCons (rVar 0) (rCons (rC (.glb 0)) rNil))) (rCons (rCB (bIsC 1 2000 13) (rCons (rVar 0) (rCons (rC (.glb 1)) rNil))) (rCons (rCB (bIsC 1 2000 13) (rCons (rVar 0) (rCons (rC (.glb 2)) rNil))) (rCons (rCB (bIsC 1 2000 13) (rCons (rVar 0) (rCons (rC (.glb 3)) rNil))) (rCons (rCB (bIsC 1 2000 13) (rCons (rVar 0) (rCons (rC (.glb 4)) rNil))) (rCons (rCB (bIsC 1 2000 13) (rCons (rVar 0) (rCons (rC (.glb 5)) rNil))) (rCons (rCB (bIsC 1 2000 13) (rCons (rVar 0) (rCons (rC (.glb 6)) rNil))) (rCons (rCB (bIsC 1 2000 13) (rCons (rVar 0) (rCons (rC (.glb 7)) rNil))) (rCons (rCB (bIsC 1 2000 13) (rCons (rVar 0) (rCons (rC (.glb 8)) rNil))) (rCons (rCB (bIsC 1 2000 13) (rCons (rVar 0) (rCons (rC (.glb 9)) rNil))) (rCons (rCB (bIsC 1 2000 13) (rCons (rVar 0) (rCons (rC (.glb 10)) rNil))) (rCons (rCB (bIsC 1 2000 13) (rCons (rVar 0) (rCons (rC (.glb 11)) rNil))) (rCons (rCB (bIsC 1 2000 13) (rCons (rVar 0) (rCons (rC (.glb 12)) rNil))) rNil)))))))))))))) (.nm 2))
    (sSeq (sIf (rOr (rTst (r2 pNe (rBM isL bCount (rVar 2) (rCons (rC (.bl true)) rNil)) (rC (.int 1)))) (rNot (rTst (rCB (bIsC 1 2000 13) (rCons (rVar 0) (rCons (rC (.ty "ValueError")) rNil)))))) (sRet (rTup (rCons (rC (.str "other")) rNil))) sNil)
    (sSeq (sAsg (r2s pIx (rVar 1) (rBM isL bIndex (rVar 2) (rCons (rC (.bl true)) rNil))) (.nm 3))
    (sSeq (sIf (rTst (r2 pEq (rVar 3) (rC (.str "BadBench")))) sNo sNil)
    (sSeq (sIf (rTst (r2 pEq (rVar 3) (rC (.str "BadNumber")))) (sRet (rTup (rCons (rVar 3) (rCons (rFldX 2000 F0 (rVar 0)) rNil)))) sNil)
    (sSeq (sIf (rTst (r2 pEq (rVar 3) (rC (.str "UnknownRule")))) sNo sNil)
    (sSeq (sIf (rTst (r2 pEq (rVar 3) (rC (.str "TooMany")))) sNo sNil)
    (sSeq (sIf (rTst (r2s (pIn false) (rVar 3) (rTup (rCons (rC (.str "BadText")) (rCons (rC (.str "BadLine")) rNil))))) sNo sNil)
    (sSeq (sIf (rTst (r2s (pIn false) (rVar 3) (rTup (rCons (rC (.str "BadClaim")) (rCons (rC (.str "NothingDone")) rNil))))) (sRet (rTup (rCons (rVar 3) rNil))) sNil)
    sNo))))))))))
theorem ref_BadNumber (T : TT K mg) : RefOk P w K mg base (Gc K) 1 1 "BadNumber" ["value"] "_law_refusal" (He.fAd K d__law_refusal.at_) (defBody s__law_refusal) (defScope s__law_refusal) ["e", "kinds", "marks", "name"] := by
  intro a oe cdv A outer s H E dd od vs hr hl TA TF
  obtain ⟨v0, rfl⟩ : ∃ v0, vs = [v0] := (match vs, hl with | [v0], _ => ⟨v0, rfl⟩)
  have nd : (["e", "kinds", "marks", "name"] : List Str).Nodup := by decide
  have hu : (A.deeper (envOfC "_law_refusal" (defScope s__law_refusal) s.heap.objs.size (He.fAd K d__law_refusal.at_) cdv)).units + 65 < cLine := by have := hr.un; omega
  have hu64 : (A.deeper (envOfC "_law_refusal" (defScope s__law_refusal) s.heap.objs.size (He.fAd K d__law_refusal.at_) cdv)).units + 64 < cLine := by have := hr.un; omega
  refine ⟨h_BadNumber ((fvs [v0]).getD 0 .non) ((fvs [v0]).getD 1 .non), [], ?_, by kernel_rfl⟩
  unfold h_BadNumber
  exact (pxs_cons (pxs_asg (g := (.nm 1)) (px_lst (pxa_cons px_str (pxa_cons px_str (pxa_cons px_str (pxa_cons px_str (pxa_cons px_str (pxa_cons px_str (pxa_cons px_str (pxa_cons px_str (pxa_cons px_str (pxa_cons px_str (pxa_cons px_str (pxa_cons px_str (pxa_cons px_str pxa_nil)))))))))))))) (pxg_name (i := 1) nd rfl (by first | exact Or.inl rfl | exact Or.inr rfl)))
    (pxs_cons (pxs_asg (g := (.nm 2)) (px_lst (pxa_cons (px_callB (cb_isC TA (T.exk_BadNumber) rfl T.isc_BadNumber (fun i hi => gx_low (by omega))) rfl (T.free 1 rfl) (pxa_cons (pxv 0) (pxa_cons (px_glb rfl (T.glo 42 rfl) rfl) pxa_nil))) (pxa_cons (px_callB (cb_isC TA (T.exk_BadNumber) rfl T.isc_BadNumber (fun i hi => gx_low (by omega))) rfl (T.free 1 rfl) (pxa_cons (pxv 0) (pxa_cons (px_glb rfl (T.glo 28 rfl) rfl) pxa_nil))) (pxa_cons (px_callB (cb_isC TA (T.exk_BadNumber) rfl T.isc_BadNumber (fun i hi => gx_low (by omega))) rfl (T.free 1 rfl) (pxa_cons (pxv 0) (pxa_cons (px_glb rfl (T.glo 43 rfl) rfl) pxa_nil))) (pxa_cons (px_callB (cb_isC TA (T.exk_BadNumber) rfl T.isc_BadNumber (fun i hi => gx_low (by omega))) rfl (T.free 1 rfl) (pxa_cons (pxv 0) (pxa_cons (px_glb rfl (T.glo 24 rfl) rfl) pxa_nil))) (pxa_cons (px_callB (cb_isC TA (T.exk_BadNumber) rfl T.isc_BadNumber (fun i hi => gx_low (by omega))) rfl (T.free 1 rfl) (pxa_cons (pxv 0) (pxa_cons (px_glb rfl (T.glo 44 rfl) rfl) pxa_nil))) (pxa_cons (px_callB (cb_isC TA (T.exk_BadNumber) rfl T.isc_BadNumber (fun i hi => gx_low (by omega))) rfl (T.free 1 rfl) (pxa_cons (pxv 0) (pxa_cons (px_glb rfl (T.glo 45 rfl) rfl) pxa_nil))) (pxa_cons (px_callB (cb_isC TA (T.exk_BadNumber) rfl T.isc_BadNumber (fun i hi => gx_low (by omega))) rfl (T.free 1 rfl) (pxa_cons (pxv 0) (pxa_cons (px_glb rfl (T.glo 46 rfl) rfl) pxa_nil))) (pxa_cons (px_callB (cb_isC TA (T.exk_BadNumber) rfl T.isc_BadNumber (fun i hi => gx_low (by omega))) rfl (T.free 1 rfl) (pxa_cons (pxv 0) (pxa_cons (px_glb rfl (T.glo 47 rfl) rfl) pxa_nil))) (pxa_cons (px_callB (cb_isC TA (T.exk_BadNumber) rfl T.isc_BadNumber (fun i hi => gx_low (by omega))) rfl (T.free 1 rfl) (pxa_cons (pxv 0) (pxa_cons (px_glb rfl (T.glo 48 rfl) rfl) pxa_nil))) (pxa_cons (px_callB (cb_isC TA (T.exk_BadNumber) rfl T.isc_BadNumber (fun i hi => gx_low (by omega))) rfl (T.free 1 rfl) (pxa_cons (pxv 0) (pxa_cons (px_glb rfl (T.glo 49 rfl) rfl) pxa_nil))) (pxa_cons (px_callB (cb_isC TA (T.exk_BadNumber) rfl T.isc_BadNumber (fun i hi => gx_low (by omega))) rfl (T.free 1 rfl) (pxa_cons (pxv 0) (pxa_cons (px_glb rfl (T.glo 50 rfl) rfl) pxa_nil))) (pxa_cons (px_callB (cb_isC TA (T.exk_BadNumber) rfl T.isc_BadNumber (fun i hi => gx_low (by omega))) rfl (T.free 1 rfl) (pxa_cons (pxv 0) (pxa_cons (px_glb rfl (T.glo 51 rfl) rfl) pxa_nil))) (pxa_cons (px_callB (cb_isC TA (T.exk_BadNumber) rfl T.isc_BadNumber (fun i hi => gx_low (by omega))) rfl (T.free 1 rfl) (pxa_cons (pxv 0) (pxa_cons (px_glb rfl (T.glo 52 rfl) rfl) pxa_nil))) pxa_nil)))))))))))))) (pxg_name (i := 2) nd rfl (by first | exact Or.inl rfl | exact Or.inr rfl)))
    (pxs_cons (pxs_if (pxt_w (pxw_or (pxt_cmp (opx_ne hu64) (px_count (pxv 2) (pxa_cons px_bl pxa_nil)) px_int (nomark _)) (pxw_or1 (pxt_not (pxt_val (px_callB (cb_isC TA (T.exk_BadNumber) rfl T.isc_BadNumber (fun i hi => gx_low (by omega))) rfl (T.free 1 rfl) (pxa_cons (pxv 0) (pxa_cons (px_ty rfl (T.free 53 rfl) rfl) pxa_nil)))))))) (pxs_one (pxs_ret (px_tup (pxa_cons px_str pxa_nil)))) pxs_nil)
    (pxs_cons (pxs_asg (g := (.nm 3)) (px_ix hu (pxv 1) (px_index (pxv 2) (pxa_cons px_bl pxa_nil)) (fun _ _ => rfl)) (pxg_name (i := 3) nd rfl (by first | exact Or.inl rfl | exact Or.inr rfl)))
    (pxs_cons (pxs_if (pxt_cmp (opx_eq hu64) (pxv 3) px_str (nomark _)) (pxs_one pxs_never) pxs_nil)
    (pxs_cons (pxs_if (pxt_cmp (opx_eq hu64) (pxv 3) px_str (nomark _)) (pxs_one (pxs_ret (px_tup (pxa_cons (pxv 3) (pxa_cons (px_fldX TA (T.exk_BadNumber).xf rfl (TF 0 "value" rfl) (pxv 0)) pxa_nil))))) pxs_nil)
    (pxs_cons (pxs_if (pxt_cmp (opx_eq hu64) (pxv 3) px_str (nomark _)) (pxs_one pxs_never) pxs_nil)
    (pxs_cons (pxs_if (pxt_cmp (opx_eq hu64) (pxv 3) px_str (nomark _)) (pxs_one pxs_never) pxs_nil)
    (pxs_cons (pxs_if (pxt_cmps (opx_in hu) (pxv 3) (px_tup (pxa_cons px_str (pxa_cons px_str pxa_nil))) rfl) (pxs_one pxs_never) pxs_nil)
    (pxs_cons (pxs_if (pxt_cmps (opx_in hu) (pxv 3) (px_tup (pxa_cons px_str (pxa_cons px_str pxa_nil))) rfl) (pxs_one (pxs_ret (px_tup (pxa_cons (pxv 3) pxa_nil)))) pxs_nil)
    (pxs_one pxs_never)))))))))))
theorem TT.inf_BadAsked (T : TT K mg) : infB K (Gc K) 3 13 ["place"] (He.ga K "BenchError") = true := by
  have h := T.x
  unfold ex at h
  simp only [Bool.and_eq_true] at h
  exact h.1.2
theorem TT.exk_BadAsked (T : TT K mg) : ExK K (Gc K 3) := exkB_ok (band T.inf_BadAsked).1
theorem TT.isc_BadAsked (T : TT K mg) : isCls K (Gc K) 3 13 = true := (band (band T.inf_BadAsked).2).1
def h_BadAsked (F0 F1 : PV) : RS := (sSeq (sAsg (rLst (rCons (rC (.str "BadBench")) (rCons (rC (.str "BadNumber")) (rCons (rC (.str "UnknownRule")) (rCons (rC (.str "BadAsked")) (rCons (rC (.str "BadValues")) (rCons (rC (.str "BadPrices")) (rCons (rC (.str "BadSold")) (rCons (rC (.str "TooMany")) (rCons (rC (.str "BadText")) (rCons (rC (.str "BadLine")) (rCons (rC (.str "Full")) (rCons (rC (.str "BadClaim")) (rCons (rC (.str "NothingDone")) rNil)))))))))))))) (.nm 1))
    (sSeq (sAsg (rLst (rCons (rCB (bIsC 3 2000 13) (rCons (rVar 0) (rCons (rC (.glb 0)) rNil))) (rCons (rCB (bIsC 3 2000 13) (rCons (rVar 0) (rCons (rC (.glb 1)) rNil))) (rCons (rCB (bIsC 3 2000 13) (rCons (rVar 0) (rCons (rC (.glb 2)) rNil))) (rCons (rCB (bIsC 3 2000 13) (rCons (rVar 0) (rCons (rC (.glb 3)) rNil))) (rCons (rCB (bIsC 3 2000 13) (rCons (rVar 0) (rCons (rC (.glb 4)) rNil))) (rCons (rCB (bIsC 3 2000 13) (rCons (rVar 0) (rCons (rC (.glb 5)) rNil))) (rCons (rCB (bIsC 3 2000 13) (rCons (rVar 0) (rCons (rC (.glb 6)) rNil))) (rCons (rCB (bIsC 3 2000 13) (rCons (rVar 0) (rCons (rC (.glb 7)) rNil))) (rCons (rCB (bIsC 3 2000 13) (rCons (rVar 0) (rCons (rC (.glb 8)) rNil))) (rCons (rCB (bIsC 3 2000 13) (rCons (rVar 0) (rCons (rC (.glb 9)) rNil))) (rCons (rCB (bIsC 3 2000 13) (rCons (rVar 0) (rCons (rC (.glb 10)) rNil))) (rCons (rCB (bIsC 3 2000 13) (rCons (rVar 0) (rCons (rC (.glb 11)) rNil))) (rCons (rCB (bIsC 3 2000 13) (rCons (rVar 0) (rCons (rC (.glb 12)) rNil))) rNil)))))))))))))) (.nm 2))
    (sSeq (sIf (rOr (rTst (r2 pNe (rBM isL bCount (rVar 2) (rCons (rC (.bl true)) rNil)) (rC (.int 1)))) (rNot (rTst (rCB (bIsC 3 2000 13) (rCons (rVar 0) (rCons (rC (.ty "ValueError")) rNil)))))) (sRet (rTup (rCons (rC (.str "other")) rNil))) sNil)
    (sSeq (sAsg (r2s pIx (rVar 1) (rBM isL bIndex (rVar 2) (rCons (rC (.bl true)) rNil))) (.nm 3))
    (sSeq (sIf (rTst (r2 pEq (rVar 3) (rC (.str "BadBench")))) sNo sNil)
    (sSeq (sIf (rTst (r2 pEq (rVar 3) (rC (.str "BadNumber")))) sNo sNil)
    (sSeq (sIf (rTst (r2 pEq (rVar 3) (rC (.str "UnknownRule")))) sNo sNil)
    (sSeq (sIf (rTst (r2 pEq (rVar 3) (rC (.str "TooMany")))) sNo sNil)
    (sSeq (sIf (rTst (r2s (pIn false) (rVar 3) (rTup (rCons (rC (.str "BadText")) (rCons (rC (.str "BadLine")) rNil))))) sNo sNil)
    (sSeq (sIf (rTst (r2s (pIn false) (rVar 3) (rTup (rCons (rC (.str "BadClaim")) (rCons (rC (.str "NothingDone")) rNil))))) (sRet (rTup (rCons (rVar 3) rNil))) sNil)
    (sRet (rTup (rCons (rVar 3) (rCons (rFldX 2000 F0 (rVar 0)) rNil))))))))))))))
theorem ref_BadAsked (T : TT K mg) : RefOk P w K mg base (Gc K) 1 3 "BadAsked" ["place"] "_law_refusal" (He.fAd K d__law_refusal.at_) (defBody s__law_refusal) (defScope s__law_refusal) ["e", "kinds", "marks", "name"] := by
  intro a oe cdv A outer s H E dd od vs hr hl TA TF
  obtain ⟨v0, rfl⟩ : ∃ v0, vs = [v0] := (match vs, hl with | [v0], _ => ⟨v0, rfl⟩)
  have nd : (["e", "kinds", "marks", "name"] : List Str).Nodup := by decide
  have hu : (A.deeper (envOfC "_law_refusal" (defScope s__law_refusal) s.heap.objs.size (He.fAd K d__law_refusal.at_) cdv)).units + 65 < cLine := by have := hr.un; omega
  have hu64 : (A.deeper (envOfC "_law_refusal" (defScope s__law_refusal) s.heap.objs.size (He.fAd K d__law_refusal.at_) cdv)).units + 64 < cLine := by have := hr.un; omega
  refine ⟨h_BadAsked ((fvs [v0]).getD 0 .non) ((fvs [v0]).getD 1 .non), [], ?_, by kernel_rfl⟩
  unfold h_BadAsked
  exact (pxs_cons (pxs_asg (g := (.nm 1)) (px_lst (pxa_cons px_str (pxa_cons px_str (pxa_cons px_str (pxa_cons px_str (pxa_cons px_str (pxa_cons px_str (pxa_cons px_str (pxa_cons px_str (pxa_cons px_str (pxa_cons px_str (pxa_cons px_str (pxa_cons px_str (pxa_cons px_str pxa_nil)))))))))))))) (pxg_name (i := 1) nd rfl (by first | exact Or.inl rfl | exact Or.inr rfl)))
    (pxs_cons (pxs_asg (g := (.nm 2)) (px_lst (pxa_cons (px_callB (cb_isC TA (T.exk_BadAsked) rfl T.isc_BadAsked (fun i hi => gx_low (by omega))) rfl (T.free 1 rfl) (pxa_cons (pxv 0) (pxa_cons (px_glb rfl (T.glo 42 rfl) rfl) pxa_nil))) (pxa_cons (px_callB (cb_isC TA (T.exk_BadAsked) rfl T.isc_BadAsked (fun i hi => gx_low (by omega))) rfl (T.free 1 rfl) (pxa_cons (pxv 0) (pxa_cons (px_glb rfl (T.glo 28 rfl) rfl) pxa_nil))) (pxa_cons (px_callB (cb_isC TA (T.exk_BadAsked) rfl T.isc_BadAsked (fun i hi => gx_low (by omega))) rfl (T.free 1 rfl) (pxa_cons (pxv 0) (pxa_cons (px_glb rfl (T.glo 43 rfl) rfl) pxa_nil))) (pxa_cons (px_callB (cb_isC TA (T.exk_BadAsked) rfl T.isc_BadAsked (fun i hi => gx_low (by omega))) rfl (T.free 1 rfl) (pxa_cons (pxv 0) (pxa_cons (px_glb rfl (T.glo 24 rfl) rfl) pxa_nil))) (pxa_cons (px_callB (cb_isC TA (T.exk_BadAsked) rfl T.isc_BadAsked (fun i hi => gx_low (by omega))) rfl (T.free 1 rfl) (pxa_cons (pxv 0) (pxa_cons (px_glb rfl (T.glo 44 rfl) rfl) pxa_nil))) (pxa_cons (px_callB (cb_isC TA (T.exk_BadAsked) rfl T.isc_BadAsked (fun i hi => gx_low (by omega))) rfl (T.free 1 rfl) (pxa_cons (pxv 0) (pxa_cons (px_glb rfl (T.glo 45 rfl) rfl) pxa_nil))) (pxa_cons (px_callB (cb_isC TA (T.exk_BadAsked) rfl T.isc_BadAsked (fun i hi => gx_low (by omega))) rfl (T.free 1 rfl) (pxa_cons (pxv 0) (pxa_cons (px_glb rfl (T.glo 46 rfl) rfl) pxa_nil))) (pxa_cons (px_callB (cb_isC TA (T.exk_BadAsked) rfl T.isc_BadAsked (fun i hi => gx_low (by omega))) rfl (T.free 1 rfl) (pxa_cons (pxv 0) (pxa_cons (px_glb rfl (T.glo 47 rfl) rfl) pxa_nil))) (pxa_cons (px_callB (cb_isC TA (T.exk_BadAsked) rfl T.isc_BadAsked (fun i hi => gx_low (by omega))) rfl (T.free 1 rfl) (pxa_cons (pxv 0) (pxa_cons (px_glb rfl (T.glo 48 rfl) rfl) pxa_nil))) (pxa_cons (px_callB (cb_isC TA (T.exk_BadAsked) rfl T.isc_BadAsked (fun i hi => gx_low (by omega))) rfl (T.free 1 rfl) (pxa_cons (pxv 0) (pxa_cons (px_glb rfl (T.glo 49 rfl) rfl) pxa_nil))) (pxa_cons (px_callB (cb_isC TA (T.exk_BadAsked) rfl T.isc_BadAsked (fun i hi => gx_low (by omega))) rfl (T.free 1 rfl) (pxa_cons (pxv 0) (pxa_cons (px_glb rfl (T.glo 50 rfl) rfl) pxa_nil))) (pxa_cons (px_callB (cb_isC TA (T.exk_BadAsked) rfl T.isc_BadAsked (fun i hi => gx_low (by omega))) rfl (T.free 1 rfl) (pxa_cons (pxv 0) (pxa_cons (px_glb rfl (T.glo 51 rfl) rfl) pxa_nil))) (pxa_cons (px_callB (cb_isC TA (T.exk_BadAsked) rfl T.isc_BadAsked (fun i hi => gx_low (by omega))) rfl (T.free 1 rfl) (pxa_cons (pxv 0) (pxa_cons (px_glb rfl (T.glo 52 rfl) rfl) pxa_nil))) pxa_nil)))))))))))))) (pxg_name (i := 2) nd rfl (by first | exact Or.inl rfl | exact Or.inr rfl)))
    (pxs_cons (pxs_if (pxt_w (pxw_or (pxt_cmp (opx_ne hu64) (px_count (pxv 2) (pxa_cons px_bl pxa_nil)) px_int (nomark _)) (pxw_or1 (pxt_not (pxt_val (px_callB (cb_isC TA (T.exk_BadAsked) rfl T.isc_BadAsked (fun i hi => gx_low (by omega))) rfl (T.free 1 rfl) (pxa_cons (pxv 0) (pxa_cons (px_ty rfl (T.free 53 rfl) rfl) pxa_nil)))))))) (pxs_one (pxs_ret (px_tup (pxa_cons px_str pxa_nil)))) pxs_nil)
    (pxs_cons (pxs_asg (g := (.nm 3)) (px_ix hu (pxv 1) (px_index (pxv 2) (pxa_cons px_bl pxa_nil)) (fun _ _ => rfl)) (pxg_name (i := 3) nd rfl (by first | exact Or.inl rfl | exact Or.inr rfl)))
    (pxs_cons (pxs_if (pxt_cmp (opx_eq hu64) (pxv 3) px_str (nomark _)) (pxs_one pxs_never) pxs_nil)
    (pxs_cons (pxs_if (pxt_cmp (opx_eq hu64) (pxv 3) px_str (nomark _)) (pxs_one pxs_never) pxs_nil)
    (pxs_cons (pxs_if (pxt_cmp (opx_eq hu64) (pxv 3) px_str (nomark _)) (pxs_one pxs_never) pxs_nil)
    (pxs_cons (pxs_if (pxt_cmp (opx_eq hu64) (pxv 3) px_str (nomark _)) (pxs_one pxs_never) pxs_nil)
    (pxs_cons (pxs_if (pxt_cmps (opx_in hu) (pxv 3) (px_tup (pxa_cons px_str (pxa_cons px_str pxa_nil))) rfl) (pxs_one pxs_never) pxs_nil)
    (pxs_cons (pxs_if (pxt_cmps (opx_in hu) (pxv 3) (px_tup (pxa_cons px_str (pxa_cons px_str pxa_nil))) rfl) (pxs_one (pxs_ret (px_tup (pxa_cons (pxv 3) pxa_nil)))) pxs_nil)
    (pxs_one (pxs_ret (px_tup (pxa_cons (pxv 3) (pxa_cons (px_fldX TA (T.exk_BadAsked).xf rfl (TF 0 "place" rfl) (pxv 0)) pxa_nil)))))))))))))))
theorem inf_ok (T : TT K mg) : ∀ c nm fs, inf c = some (nm, fs) → InfOk P w K mg base (Gc K) 1 c nm fs (He.ga K "BenchError") "_law_refusal" (He.fAd K d__law_refusal.at_) (defBody s__law_refusal) (defScope s__law_refusal) ["e", "kinds", "marks", "name"] := by
  intro c nm fs h
  unfold inf at h
  split at h
  · cases h; exact ⟨by decide, by decide, fun g hg => infB_no T.inf_BadNumber g hg, infB_ex T.inf_BadNumber, ref_BadNumber T⟩
  · cases h; exact ⟨by decide, by decide, fun g hg => infB_no T.inf_BadAsked g hg, infB_ex T.inf_BadAsked, ref_BadAsked T⟩
  · cases h
theorem sc__law_refusal : FnScope ["e", "kinds", "marks", "name"] ["e"] (defScope s__law_refusal) := ⟨rfl, rfl, rfl, by decide +kernel, rfl, by decide +kernel, by decide +kernel⟩
theorem sc__law_told : FnScope ["call", "e"] ["call"] (defScope s__law_told) := ⟨rfl, rfl, rfl, by decide +kernel, rfl, by decide +kernel, by decide +kernel⟩
theorem px_toldK {X : Cx} {E : WE} {c Pt : Addr} {params : Arguments} {body : Expr} {scope : Scope} {lpos p pos : Pos} {r : RX} (hp : X.prog = P) (T : TT X.K X.mg) (LC : LawC X (Gc X.K) 0 "law.<locals>.<lambda>" Pt c) (LQ : LamQ X.env.scope scope X.N) (LP : LamP X.env params body scope) (hr : Room 10 X.A) (hg : Gl X "_law_told")
    (hbody : ∀ (A : Around) (outer : List Env) (s : Shared) (H : Hp) (E : XK) (f c' : Addr), Room 8 (A.deeper (LamX.lamEnv X scope s.heap.objs.size f c')) → Takes (LamX.lamCx X A outer s H E scope f c') (wxE X.w X.K (Gc X.K) (bodyE X.w X.K (Gc X.K) E)) → PX (LamX.lamCx X A outer s H E scope f c') (Gc X.K) (bodyE X.w X.K (Gc X.K) E) body r) :
    PX X (Gc X.K) E (.Call (.Name "_law_told" p) [.Lambda params body scope lpos] [] pos) (rTold inf r) := by
  obtain ⟨fdT, FT⟩ := T.c.def_ 22 (d := d__law_told) rfl
  obtain ⟨fdR, FR⟩ := T.c.def_ 23 (d := d__law_refusal) rfl
  exact px_told (kr := 1) (kb := 8) (NT := ["call", "e"]) (NR := ["e", "kinds", "marks", "name"]) (inf := inf) LC LQ LP hr (by decide) FT rfl (FunD.bindsN FT fun _ _ _ _ _ _ us hl => match us, hl with | [_], _ => rfl) sc__law_told rfl rfl rfl (by first | exact Or.inl rfl | exact Or.inr (Or.inl rfl) | exact Or.inr (Or.inr rfl)) rfl rfl rfl (T.glo 59 rfl)
    FR (FunD.bindsN FR fun _ _ _ _ _ _ us hl => match us, hl with | [_], _ => rfl) sc__law_refusal (T.glo 58 rfl) (by decide) (by rw [hp]; exact inf_ok T) hg (T.glo 57 rfl) hbody
theorem sc_first_wrong : FnScope ["value", "least", "most", "judge", "place", "row"] ["value", "least", "most", "judge"] (defScope s_first_wrong) := ⟨rfl, rfl, rfl, by decide +kernel, rfl, by decide +kernel, by decide +kernel⟩
theorem sc_is_whole : FnScope ["value"] ["value"] (defScope s_is_whole) := ⟨rfl, rfl, rfl, by decide +kernel, rfl, by decide +kernel, by decide +kernel⟩
theorem ok_is_whole (T : TT K mg) (TB : TBs K mg base) : ∃ fd, FnOk P w K mg base (L2.CX P w) 1 (He.fAd K d_is_whole.at_) fd ["value"] (spM w K (Gc K) 1 m_is_whole) ∧ Binds K fd ["value"] [] ∧ PySem.W.keepIn K (.ref (He.fAd K d_is_whole.at_)) = true := by
  obtain ⟨fd, F⟩ := T.c.def_ 0 (d := d_is_whole) rfl
  refine ⟨fd, ?_, FunD.bindsN F fun _ _ _ _ _ _ us hl => match us, hl with | [_], _ => rfl, F.kp⟩
  have nd : (["value"] : List Str).Nodup := sc_is_whole.nd
  refine fn_pure (fn_bodyD (N := ["value"]) F sc_is_whole fun cdv A outer s H E hr tk pw => ?_)
  have hu := hu65 hr
  have hu64 := hu64 hr
  unfold b_is_whole
  exact (pxs_one (pxs_ret (px_and (px_callB (cb_isi isOk) rfl (T.free 1 rfl) (pxa_cons (pxv 0) (pxa_cons (px_ty rfl (T.free 0 rfl) rfl) pxa_nil))) (px_one (px_not (px_callB (cb_isi isOk) rfl (T.free 1 rfl) (pxa_cons (pxv 0) (pxa_cons (px_ty rfl (T.free 2 rfl) rfl) pxa_nil))))))))
theorem sc_is_within : FnScope ["value", "least", "most"] ["value", "least", "most"] (defScope s_is_within) := ⟨rfl, rfl, rfl, by decide +kernel, rfl, by decide +kernel, by decide +kernel⟩
theorem ok_is_within (T : TT K mg) (TB : TBs K mg base) : ∃ fd, FnOk P w K mg base (L2.CX P w) 2 (He.fAd K d_is_within.at_) fd ["value", "least", "most"] (spM w K (Gc K) 3 m_is_within) ∧ Binds K fd ["value", "least", "most"] [] ∧ PySem.W.keepIn K (.ref (He.fAd K d_is_within.at_)) = true := by
  obtain ⟨fd, F⟩ := T.c.def_ 1 (d := d_is_within) rfl
  refine ⟨fd, ?_, FunD.bindsN F fun _ _ _ _ _ _ us hl => match us, hl with | [_, _, _], _ => rfl, F.kp⟩
  obtain ⟨fd_is_whole, F_is_whole, B_is_whole, K_is_whole⟩ := ok_is_whole (w := w) (base := base) T TB
  have nd : (["value", "least", "most"] : List Str).Nodup := sc_is_within.nd
  refine fn_pure (fn_bodyD (N := ["value", "least", "most"]) F sc_is_within fun cdv A outer s H E hr tk pw => ?_)
  have hu := hu65 hr
  have hu64 := hu64 hr
  unfold b_is_within
  exact (pxs_one (pxs_ret (px_and (px_call F_is_whole (hr.mono (by decide)) rfl (T.glo 3 rfl) K_is_whole B_is_whole tk (pxa_cons (pxv 0) pxa_nil)) (px_one (px_ch opx_le opx_le (pxv 1) (pxv 0) (pxv 2))))))
theorem sc_Line___init__ : FnScope ["self", "legs", "seats"] ["self", "legs", "seats"] (defScope s_Line___init__) := ⟨rfl, rfl, rfl, by decide +kernel, rfl, by decide +kernel, by decide +kernel⟩
theorem ok_Line___init__ (T : TT K mg) (TB : TBs K mg base) : ∃ fd, FnOk P w K mg base (L2.CX P w) 3 (He.fAd K d_Line___init__.at_) fd ["self", "legs", "seats"] (spM w K (Gc K) 3 m_Line___init__) ∧ Binds K fd ["self", "legs", "seats"] [] ∧ PySem.W.keepIn K (.ref (He.fAd K d_Line___init__.at_)) = true := by
  obtain ⟨fd, F⟩ := T.c.def_ 2 (d := d_Line___init__) rfl
  refine ⟨fd, ?_, FunD.bindsN F fun _ _ _ _ _ _ us hl => match us, hl with | [_, _, _], _ => rfl, F.kp⟩
  obtain ⟨fd_is_within, F_is_within, B_is_within, K_is_within⟩ := ok_is_within (w := w) (base := base) T TB
  have nd : (["self", "legs", "seats"] : List Str).Nodup := sc_Line___init__.nd
  refine (fn_bodyD (N := ["self", "legs", "seats"]) F sc_Line___init__ fun cdv A outer s H E hr tk pw => ?_)
  have hu := hu65 hr
  have hu64 := hu64 hr
  unfold b_Line___init__
  exact (pxs_cons (pxs_if (pxt_not (pxt_val (px_call F_is_within (hr.mono (by decide)) rfl (T.glo 5 rfl) K_is_within B_is_within tk (pxa_cons (pxv 1) (pxa_cons px_int (pxa_cons (px_gint rfl (T.int 4 rfl)) pxa_nil)))))) (pxs_one pxs_never) pxs_nil)
    (pxs_cons (pxs_if (pxt_not (pxt_val (px_call F_is_within (hr.mono (by decide)) rfl (T.glo 5 rfl) K_is_within B_is_within tk (pxa_cons (pxv 2) (pxa_cons px_int (pxa_cons (px_gint rfl (T.int 6 rfl)) pxa_nil)))))) (pxs_one pxs_never) pxs_nil)
    (pxs_cons (pxs_fld (pxv 0) (pxv 1) (T.co_Line_legs))
    (pxs_one (pxs_fld (pxv 0) (pxv 2) (T.co_Line_seats))))))
theorem sc__law_alike : FnScope ["found", "due", "k"] ["found", "due"] (defScope s__law_alike) := ⟨rfl, rfl, rfl, by decide +kernel, rfl, by decide +kernel, by decide +kernel⟩
theorem okr__law_alike (T : TT K mg) (TB : TBs K mg base) {fd : FuncData} (F : FunD K "_law_alike" "_law_alike" (defArgs s__law_alike) (defBody s__law_alike) (defScope s__law_alike) [] [] (He.fAd K d__law_alike.at_) fd) (hB : Binds K fd ["found", "due"] []) (hK : PySem.W.keepIn K (.ref (He.fAd K d__law_alike.at_)) = true) : ∀ m : Nat, FnOk P w K mg base (L2.CX P w) (0 + m) (He.fAd K d__law_alike.at_) fd ["found", "due"] (spM w K (Gc K) 2 (m__law_alike m)) := by
  intro m
  induction m with
  | zero => exact fn_never (x := "") (qual := "")
  | succ m hF =>
    have nd : (["found", "due", "k"] : List Str).Nodup := sc__law_alike.nd
    refine fn_pure (fn_bodyD (N := ["found", "due", "k"]) F sc__law_alike fun cdv A outer s H E hr tk pw => ?_)
    have hu := hu65 hr
    have hu64 := hu64 hr
    unfold b__law_alike
    exact (pxs_cons (pxs_if (pxt_val (px_callB (cb_isi isOk) rfl (T.free 1 rfl) (pxa_cons (pxv 1) (pxa_cons (px_tup (pxa_cons (px_ty rfl (T.free 7 rfl) rfl) (pxa_cons (px_ty rfl (T.free 8 rfl) rfl) pxa_nil))) pxa_nil)))) (pxs_cons (pxs_if (pxt_w (pxw_or (pxt_not (pxt_val (px_callB (cb_isi isOk) rfl (T.free 1 rfl) (pxa_cons (pxv 0) (pxa_cons (px_tup (pxa_cons (px_ty rfl (T.free 7 rfl) rfl) (pxa_cons (px_ty rfl (T.free 8 rfl) rfl) pxa_nil))) pxa_nil))))) (pxw_or1 (pxt_cmp (opx_ne hu64) (px_callB (cb_isi isOk) rfl (T.free 1 rfl) (pxa_cons (pxv 0) (pxa_cons (px_ty rfl (T.free 8 rfl) rfl) pxa_nil))) (px_callB (cb_isi isOk) rfl (T.free 1 rfl) (pxa_cons (pxv 1) (pxa_cons (px_ty rfl (T.free 8 rfl) rfl) pxa_nil))) (nomark _))))) (pxs_one (pxs_ret px_bl)) pxs_nil)
      (pxs_cons (pxs_if (pxt_cmp (opx_ne hu64) (px_callB (cb_len) rfl (T.free 9 rfl) (pxa_cons (pxv 0) pxa_nil)) (px_callB (cb_len) rfl (T.free 9 rfl) (pxa_cons (pxv 1) pxa_nil)) (nomark _)) (pxs_one (pxs_ret px_bl)) pxs_nil)
      (pxs_one (pxs_ret (px_cmp (opx_eq hu64) (px_lc (g := (.nm 2)) [("k", 2)] rfl nd (pxi_range1 rfl (T.free 10 rfl) (pxa_cons (px_callB (cb_len) rfl (T.free 9 rfl) (pxa_cons (pxv 1) pxa_nil)) pxa_nil)) (blkOk_by (by kernel_rfl)) (by decide) (fun _ _ _ _ _ => (pxg_name (i := 2) nd rfl (by first | exact Or.inl rfl | exact Or.inr rfl))) (fun _ _ _ _ _ => (pxif_one (pxt_not (pxt_val (px_call hF hr rfl (T.glo 11 rfl) hK hB takes_no (pxa_cons (px_ix hu (pxv 0) (pxv 2) (fun _ _ => rfl)) (pxa_cons (px_ix hu (pxv 1) (pxv 2) (fun _ _ => rfl)) pxa_nil))))))) (fun _ _ _ _ _ => (pxv 2))) (px_lst pxa_nil) (nomark _)))))) pxs_nil)
      (pxs_cons (pxs_if (pxt_w (pxw_or (pxt_cmp opx_is (pxv 1) px_non (nomark _)) (pxw_or1 (pxt_val (px_callB (cb_isi isOk) rfl (T.free 1 rfl) (pxa_cons (pxv 1) (pxa_cons (px_ty rfl (T.free 12 rfl) rfl) pxa_nil))))))) (pxs_one (pxs_ret (px_and (px_cmp (opx_eq hu64) (pxv 0) (pxv 1) (nomark _)) (px_one (px_cmp (opx_eq hu64) (px_callB (cb_isi isOk) rfl (T.free 1 rfl) (pxa_cons (pxv 0) (pxa_cons (px_ty rfl (T.free 12 rfl) rfl) pxa_nil))) (px_callB (cb_isi isOk) rfl (T.free 1 rfl) (pxa_cons (pxv 1) (pxa_cons (px_ty rfl (T.free 12 rfl) rfl) pxa_nil))) (nomark _)))))) pxs_nil)
      (pxs_one (pxs_ret (px_and (px_callB (cb_isi isOk) rfl (T.free 1 rfl) (pxa_cons (pxv 0) (pxa_cons (px_ty rfl (T.free 0 rfl) rfl) pxa_nil))) (px_and (px_cmp (opx_eq hu64) (px_callB (cb_isi isOk) rfl (T.free 1 rfl) (pxa_cons (pxv 0) (pxa_cons (px_ty rfl (T.free 2 rfl) rfl) pxa_nil))) (px_callB (cb_isi isOk) rfl (T.free 1 rfl) (pxa_cons (pxv 1) (pxa_cons (px_ty rfl (T.free 2 rfl) rfl) pxa_nil))) (nomark _)) (px_one (px_cmp (opx_eq hu64) (pxv 0) (pxv 1) (nomark _)))))))))
theorem ok__law_alike (T : TT K mg) (TB : TBs K mg base) : ∃ fd, FnOk P w K mg base (L2.CX P w) 6 (He.fAd K d__law_alike.at_) fd ["found", "due"] (spM w K (Gc K) 2 (m__law_alike 6)) ∧ Binds K fd ["found", "due"] [] ∧ PySem.W.keepIn K (.ref (He.fAd K d__law_alike.at_)) = true := by
  obtain ⟨fd, F⟩ := T.c.def_ 3 (d := d__law_alike) rfl
  have hB : Binds K fd ["found", "due"] [] := FunD.bindsN F fun _ _ _ _ _ _ us hl => match us, hl with | [_, _], _ => rfl
  exact ⟨fd, okr__law_alike T TB F hB F.kp 6, hB, F.kp⟩
theorem sc__law_all : FnScope ["legs", "found", "first", "last"] ["legs"] (defScope s__law_all) := ⟨rfl, rfl, rfl, by decide +kernel, rfl, by decide +kernel, by decide +kernel⟩
theorem ok__law_all (T : TT K mg) (TB : TBs K mg base) : ∃ fd, FnOk P w K mg base (L2.CX P w) 1 (He.fAd K d__law_all.at_) fd ["legs"] (spM w K (Gc K) 1 m__law_all) ∧ Binds K fd ["legs"] [] ∧ PySem.W.keepIn K (.ref (He.fAd K d__law_all.at_)) = true := by
  obtain ⟨fd, F⟩ := T.c.def_ 4 (d := d__law_all) rfl
  refine ⟨fd, ?_, FunD.bindsN F fun _ _ _ _ _ _ us hl => match us, hl with | [_], _ => rfl, F.kp⟩
  have nd : (["legs", "found", "first", "last"] : List Str).Nodup := sc__law_all.nd
  refine fn_pure (fn_bodyD (N := ["legs", "found", "first", "last"]) F sc__law_all fun cdv A outer s H E hr tk pw => ?_)
  have hu := hu65 hr
  have hu64 := hu64 hr
  unfold b__law_all
  exact (pxs_cons (pxs_asg (g := (.nm 1)) (px_lstM pxa_nil) (pxg_name (i := 1) nd rfl (by first | exact Or.inl rfl | exact Or.inr rfl)))
    (pxs_cons (pxs_for (g := (.nm 2)) pw rfl (pxi_range1 rfl (T.free 10 rfl) (pxa_cons (pxv 0) pxa_nil)) (pxg_name (i := 2) nd rfl (by first | exact Or.inl rfl | exact Or.inr rfl)) (pxs_one (pxs_expr (px_extend (pxv 1) (pxa_cons (px_lc (g := (.nm 3)) [("last", 3)] rfl nd (pxi_range2 rfl (T.free 10 rfl) (pxa_cons (px_op opx_add (pxv 2) px_int) (pxa_cons (px_op opx_add (pxv 0) px_int) pxa_nil))) (blkOk_by (by kernel_rfl)) (by decide) (fun _ _ _ _ _ => (pxg_name (i := 3) nd rfl (by first | exact Or.inl rfl | exact Or.inr rfl))) (fun _ _ _ _ _ => pxif_nil) (fun _ _ _ _ _ => (px_tup (pxa_cons (pxv 2) (pxa_cons (pxv 3) pxa_nil))))) pxa_nil)))))
    (pxs_one (pxs_pre 4 1 (pxs_ret (pxv 1))))))
theorem sc__law_apart : FnScope ["asks", "value", "k", "j"] ["asks", "value"] (defScope s__law_apart) := ⟨rfl, rfl, rfl, by decide +kernel, rfl, by decide +kernel, by decide +kernel⟩
theorem ok__law_apart (T : TT K mg) (TB : TBs K mg base) : ∃ fd, FnOk P w K mg base (L2.CX P w) 1 (He.fAd K d__law_apart.at_) fd ["asks", "value"] (spM w K (Gc K) 2 m__law_apart) ∧ Binds K fd ["asks", "value"] [] ∧ PySem.W.keepIn K (.ref (He.fAd K d__law_apart.at_)) = true := by
  obtain ⟨fd, F⟩ := T.c.def_ 5 (d := d__law_apart) rfl
  refine ⟨fd, ?_, FunD.bindsN F fun _ _ _ _ _ _ us hl => match us, hl with | [_, _], _ => rfl, F.kp⟩
  have nd : (["asks", "value", "k", "j"] : List Str).Nodup := sc__law_apart.nd
  refine fn_pure (fn_bodyD (N := ["asks", "value", "k", "j"]) F sc__law_apart fun cdv A outer s H E hr tk pw => ?_)
  have hu := hu65 hr
  have hu64 := hu64 hr
  unfold b__law_apart
  exact (pxs_cons (pxs_for (g := (.nm 2)) pw rfl (pxi_range1 rfl (T.free 10 rfl) (pxa_cons (px_callB (cb_len) rfl (T.free 9 rfl) (pxa_cons (pxv 0) pxa_nil)) pxa_nil)) (pxg_name (i := 2) nd rfl (by first | exact Or.inl rfl | exact Or.inr rfl)) (pxs_one (pxs_for (g := (.nm 3)) pw rfl (pxi_range1 rfl (T.free 10 rfl) (pxa_cons (pxv 2) pxa_nil)) (pxg_name (i := 3) nd rfl (by first | exact Or.inl rfl | exact Or.inr rfl)) (pxs_one (pxs_if (pxt_w (pxw_and (pxt_cmp (opx_eq hu64) (px_ix hu (pxv 1) (pxv 2) (fun _ _ => rfl)) (px_ix hu (pxv 1) (pxv 3) (fun _ _ => rfl)) (nomark _)) (pxw_and (pxt_cmp opx_lt (px_ix hu (px_ix hu (pxv 0) (pxv 2) (fun _ _ => rfl)) px_int (fun _ _ => rfl)) (px_ix hu (px_ix hu (pxv 0) (pxv 3) (fun _ _ => rfl)) px_int (fun _ _ => rfl)) (nomark _)) (pxw_and1 (pxt_cmp opx_lt (px_ix hu (px_ix hu (pxv 0) (pxv 3) (fun _ _ => rfl)) px_int (fun _ _ => rfl)) (px_ix hu (px_ix hu (pxv 0) (pxv 2) (fun _ _ => rfl)) px_int (fun _ _ => rfl)) (nomark _)))))) (pxs_one (pxs_ret px_bl)) pxs_nil)))))
    (pxs_one (pxs_ret px_bl)))
theorem sc__law_taken : FnScope ["row", "many", "found", "cell"] ["row", "many"] (defScope s__law_taken) := ⟨rfl, rfl, rfl, by decide +kernel, rfl, by decide +kernel, by decide +kernel⟩
theorem ok__law_taken (T : TT K mg) (TB : TBs K mg base) : ∃ fd, FnOk P w K mg base (L2.CX P w) 1 (He.fAd K d__law_taken.at_) fd ["row", "many"] (spM w K (Gc K) 2 m__law_taken) ∧ Binds K fd ["row", "many"] [] ∧ PySem.W.keepIn K (.ref (He.fAd K d__law_taken.at_)) = true := by
  obtain ⟨fd, F⟩ := T.c.def_ 6 (d := d__law_taken) rfl
  refine ⟨fd, ?_, FunD.bindsN F fun _ _ _ _ _ _ us hl => match us, hl with | [_, _], _ => rfl, F.kp⟩
  have nd : (["row", "many", "found", "cell"] : List Str).Nodup := sc__law_taken.nd
  refine fn_gc (fn_bodyD (N := ["row", "many", "found", "cell"]) F sc__law_taken fun cdv A outer s H E hr tk pw => ?_)
  have hu := hu65 hr
  have hu64 := hu64 hr
  unfold b__law_taken
  exact (pxs_cons (pxs_if (pxt_cmp opx_gt (px_ix hu (pxv 0) px_int (fun _ _ => rfl)) px_int (nomark _)) (pxs_cons (pxs_asg (g := (.nm 2)) (px_op opx_mod (px_callTy (cb_int) rfl (T.free 0 rfl) (pxa_cons (px_ix hu (pxv 0) px_int (fun _ _ => rfl)) pxa_nil)) (pxv 1)) (pxg_name (i := 2) nd rfl (by first | exact Or.inl rfl | exact Or.inr rfl)))
    (pxs_cons (pxs_put hu (pxv 0) px_int (px_op opx_div (px_ix hu (pxv 0) px_int (fun _ _ => rfl)) (pxv 1)))
    (pxs_one (pxs_ret (pxv 2))))) pxs_nil)
    (pxs_cons (pxs_put hu (pxv 0) px_int (px_op opx_add (px_ix hu (pxv 0) px_int (fun _ _ => rfl)) px_int))
    (pxs_cons (pxs_if (pxt_cmp opx_gt (px_ix hu (pxv 0) px_int (fun _ _ => rfl)) (px_callB (cb_len) rfl (T.free 9 rfl) (pxa_cons (px_ix hu (pxv 0) px_int (fun _ _ => rfl)) pxa_nil)) (nomark _)) (pxs_cons (pxs_put hu (pxv 0) px_int (px_op opx_mod (px_callTy (cb_int) rfl (T.free 0 rfl) (pxa_cons (px_op opx_add (px_op opx_mul (px_ix hu (pxv 0) px_int (fun _ _ => rfl)) px_int) px_int) pxa_nil)) px_int))
    (pxs_one (pxs_ret (px_op opx_mod (px_callTy (cb_int) rfl (T.free 0 rfl) (pxa_cons (px_op opx_div (px_ix hu (pxv 0) px_int (fun _ _ => rfl)) px_int) pxa_nil)) (pxv 1))))) pxs_nil)
    (pxs_cons (pxs_asg (g := (.nm 3)) (px_ix hu (px_ix hu (pxv 0) px_int (fun _ _ => rfl)) (px_op opx_sub (px_ix hu (pxv 0) px_int (fun _ _ => rfl)) px_int) (fun _ _ => rfl)) (pxg_name (i := 3) nd rfl (by first | exact Or.inl rfl | exact Or.inr rfl)))
    (pxs_cons (pxs_put hu (pxv 0) px_int (px_op opx_mod (px_callTy (cb_int) rfl (T.free 0 rfl) (pxa_cons (px_op opx_add (px_op opx_add (px_op opx_mul (px_ix hu (pxv 0) px_int (fun _ _ => rfl)) px_int) (pxv 3)) px_int) pxa_nil)) px_int))
    (pxs_cons (pxs_if (pxt_cmp opx_ge (pxv 3) (px_op opx_pow px_int px_int) (nomark _)) (pxs_cons (pxs_put hu (pxv 0) px_int (px_op opx_div (pxv 3) (pxv 1)))
    (pxs_one (pxs_ret (px_op opx_mod (px_callTy (cb_int) rfl (T.free 0 rfl) (pxa_cons (pxv 3) pxa_nil)) (pxv 1))))) pxs_nil)
    (pxs_one (pxs_ret (px_op opx_mod (px_callTy (cb_int) rfl (T.free 0 rfl) (pxa_cons (px_op opx_add (px_op opx_mul (px_op opx_mod (px_callTy (cb_int) rfl (T.free 0 rfl) (pxa_cons (pxv 3) pxa_nil)) px_int) px_int) (px_op opx_div (px_ix hu (pxv 0) px_int (fun _ _ => rfl)) px_int)) pxa_nil)) (pxv 1))))))))))
theorem sc__law_pick : FnScope ["row", "things"] ["row", "things"] (defScope s__law_pick) := ⟨rfl, rfl, rfl, by decide +kernel, rfl, by decide +kernel, by decide +kernel⟩
theorem ok__law_pick (T : TT K mg) (TB : TBs K mg base) : ∃ fd, FnOk P w K mg base (L2.CX P w) 2 (He.fAd K d__law_pick.at_) fd ["row", "things"] (spM w K (Gc K) 2 m__law_pick) ∧ Binds K fd ["row", "things"] [] ∧ PySem.W.keepIn K (.ref (He.fAd K d__law_pick.at_)) = true := by
  obtain ⟨fd, F⟩ := T.c.def_ 7 (d := d__law_pick) rfl
  refine ⟨fd, ?_, FunD.bindsN F fun _ _ _ _ _ _ us hl => match us, hl with | [_, _], _ => rfl, F.kp⟩
  obtain ⟨fd__law_taken, F__law_taken, B__law_taken, K__law_taken⟩ := ok__law_taken (w := w) (base := base) T TB
  have nd : (["row", "things"] : List Str).Nodup := sc__law_pick.nd
  refine fn_gc (fn_bodyD (N := ["row", "things"]) F sc__law_pick fun cdv A outer s H E hr tk pw => ?_)
  have hu := hu65 hr
  have hu64 := hu64 hr
  unfold b__law_pick
  exact (pxs_one (pxs_ret (px_ix hu (pxv 1) (px_call F__law_taken (hr.mono (by decide)) rfl (T.glo 13 rfl) K__law_taken B__law_taken tk (pxa_cons (pxv 0) (pxa_cons (px_callB (cb_len) rfl (T.free 9 rfl) (pxa_cons (pxv 1) pxa_nil)) pxa_nil))) (fun _ _ => rfl))))
theorem sc__law_asked : FnScope ["row", "legs", "most", "every", "long", "short", "one", "k"] ["row", "legs", "most"] (defScope s__law_asked) := ⟨rfl, rfl, rfl, by decide +kernel, rfl, by decide +kernel, by decide +kernel⟩
theorem ok__law_asked (T : TT K mg) (TB : TBs K mg base) : ∃ fd, FnOk P w K mg base (L2.CX P w) 3 (He.fAd K d__law_asked.at_) fd ["row", "legs", "most"] (spM w K (Gc K) 3 m__law_asked) ∧ Binds K fd ["row", "legs", "most"] [] ∧ PySem.W.keepIn K (.ref (He.fAd K d__law_asked.at_)) = true := by
  obtain ⟨fd, F⟩ := T.c.def_ 8 (d := d__law_asked) rfl
  refine ⟨fd, ?_, FunD.bindsN F fun _ _ _ _ _ _ us hl => match us, hl with | [_, _, _], _ => rfl, F.kp⟩
  obtain ⟨fd__law_all, F__law_all, B__law_all, K__law_all⟩ := ok__law_all (w := w) (base := base) T TB
  obtain ⟨fd__law_pick, F__law_pick, B__law_pick, K__law_pick⟩ := ok__law_pick (w := w) (base := base) T TB
  obtain ⟨fd__law_taken, F__law_taken, B__law_taken, K__law_taken⟩ := ok__law_taken (w := w) (base := base) T TB
  have nd : (["row", "legs", "most", "every", "long", "short", "one", "k"] : List Str).Nodup := sc__law_asked.nd
  refine fn_gc (fn_bodyD (N := ["row", "legs", "most", "every", "long", "short", "one", "k"]) F sc__law_asked fun cdv A outer s H E hr tk pw => ?_)
  have hu := hu65 hr
  have hu64 := hu64 hr
  unfold b__law_asked
  exact (pxs_cons (pxs_asg (g := (.cons (.nm 3) (.cons (.nm 4) .nil))) (px_tup (pxa_cons (px_call F__law_all (hr.mono (by decide)) rfl (T.glo 14 rfl) K__law_all B__law_all tk (pxa_cons (pxv 1) pxa_nil)) (pxa_cons (px_call F__law_pick (hr.mono (by decide)) rfl (T.glo 15 rfl) K__law_pick B__law_pick tk (pxa_cons (pxv 0) (pxa_cons (px_lst (pxa_cons px_int (pxa_cons px_int (pxa_cons px_int pxa_nil)))) pxa_nil))) pxa_nil))) (pxg_tup rfl (pxgs_cons (pxg_name (i := 3) nd rfl (by first | exact Or.inl rfl | exact Or.inr rfl)) (pxgs_cons (pxg_name (i := 4) nd rfl (by first | exact Or.inl rfl | exact Or.inr rfl)) pxgs_nil))))
    (pxs_cons (pxs_asg (g := (.nm 5)) (px_lc (g := (.nm 6)) [("one", 6)] rfl nd (pxi_seq (pxv 3)) (blkOk_by (by kernel_rfl)) (by decide) (fun _ _ _ _ _ => (pxg_name (i := 6) nd rfl (by first | exact Or.inl rfl | exact Or.inr rfl))) (fun _ _ _ _ _ => (pxif_one (pxt_cmp opx_le (px_op opx_sub (px_ix hu (pxv 6) px_int (fun _ _ => rfl)) (px_ix hu (pxv 6) px_int (fun _ _ => rfl))) (pxv 4) (nomark _)))) (fun _ _ _ _ _ => (pxv 6))) (pxg_name (i := 5) nd rfl (by first | exact Or.inl rfl | exact Or.inr rfl)))
    (pxs_one (pxs_ret (px_callTy (cb_tuple) rfl (T.free 7 rfl) (pxa_cons (px_lc (g := (.nm 7)) [("k", 7)] rfl nd (pxi_range1 rfl (T.free 10 rfl) (pxa_cons (px_call F__law_taken (hr.mono (by decide)) rfl (T.glo 13 rfl) K__law_taken B__law_taken tk (pxa_cons (pxv 0) (pxa_cons (px_op opx_add (pxv 2) px_int) pxa_nil))) pxa_nil)) (blkOk_by (by kernel_rfl)) (by decide) (fun _ _ _ _ _ => (pxg_name (i := 7) nd rfl (by first | exact Or.inl rfl | exact Or.inr rfl))) (fun _ _ _ _ _ => pxif_nil) (fun _ _ _ _ _ => (px_call F__law_pick (hr.mono (by decide)) rfl (T.glo 15 rfl) K__law_pick B__law_pick takes_no (pxa_cons (pxv 0) (pxa_cons (pxv 5) pxa_nil))))) pxa_nil))))))
theorem sc__law_same : FnScope ["found", "due"] ["found", "due"] (defScope s__law_same) := ⟨rfl, rfl, rfl, by decide +kernel, rfl, by decide +kernel, by decide +kernel⟩
theorem ok__law_same (T : TT K mg) (TB : TBs K mg base) : ∃ fd, FnG P w K mg base (L2.CX P w) 1 (He.fAd K d__law_same.at_) fd ["found", "due"] (spM w K (Gc K) 2 m__law_same) ∧ Binds K fd ["found", "due"] [] ∧ PySem.W.keepIn K (.ref (He.fAd K d__law_same.at_)) = true := by
  obtain ⟨fd, F⟩ := T.c.def_ 9 (d := d__law_same) rfl
  refine ⟨fd, ?_, FunD.bindsN F fun _ _ _ _ _ _ us hl => match us, hl with | [_, _], _ => rfl, F.kp⟩
  have nd : (["found", "due"] : List Str).Nodup := sc__law_same.nd
  refine fnG_pure (fn_bodyG (at_ := d__law_same.at_) (st := s__law_same) (N := ["found", "due"]) F sc__law_same fun cdv A outer s H E hgA hcd hr tk pw => ?_)
  have hu := hu65 hr
  have hu64 := hu64 hr
  unfold b__law_same
  exact (pxs_one (pxs_ret (px_cmp (opx_eq hu64) (px_callB (cb_repr (guards_deeper hgA) (hu101 hr)) rfl (T.free 16 rfl) (pxa_cons (pxv 0) pxa_nil)) (px_callB (cb_repr (guards_deeper hgA) (hu101 hr)) rfl (T.free 16 rfl) (pxa_cons (pxv 1) pxa_nil)) (nomark _))))
theorem sc__law_seatings : FnScope ["asks", "seats", "rows", "k", "longer", "one", "seat"] ["asks", "seats"] (defScope s__law_seatings) := ⟨rfl, rfl, rfl, by decide +kernel, rfl, by decide +kernel, by decide +kernel⟩
theorem ok__law_seatings (T : TT K mg) (TB : TBs K mg base) : ∃ fd, FnOk P w K mg base (L2.CX P w) 2 (He.fAd K d__law_seatings.at_) fd ["asks", "seats"] (spM w K (Gc K) 2 m__law_seatings) ∧ Binds K fd ["asks", "seats"] [] ∧ PySem.W.keepIn K (.ref (He.fAd K d__law_seatings.at_)) = true := by
  obtain ⟨fd, F⟩ := T.c.def_ 10 (d := d__law_seatings) rfl
  refine ⟨fd, ?_, FunD.bindsN F fun _ _ _ _ _ _ us hl => match us, hl with | [_, _], _ => rfl, F.kp⟩
  obtain ⟨fd__law_apart, F__law_apart, B__law_apart, K__law_apart⟩ := ok__law_apart (w := w) (base := base) T TB
  have nd : (["asks", "seats", "rows", "k", "longer", "one", "seat"] : List Str).Nodup := sc__law_seatings.nd
  refine fn_pure (fn_bodyD (N := ["asks", "seats", "rows", "k", "longer", "one", "seat"]) F sc__law_seatings fun cdv A outer s H E hr tk pw => ?_)
  have hu := hu65 hr
  have hu64 := hu64 hr
  unfold b__law_seatings
  exact (pxs_cons (pxs_asg (g := (.nm 2)) (px_lst (pxa_cons (px_tup pxa_nil) pxa_nil)) (pxg_name (i := 2) nd rfl (by first | exact Or.inl rfl | exact Or.inr rfl)))
    (pxs_cons (pxs_for (g := (.nm 3)) pw rfl (pxi_range1 rfl (T.free 10 rfl) (pxa_cons (px_callB (cb_len) rfl (T.free 9 rfl) (pxa_cons (pxv 0) pxa_nil)) pxa_nil)) (pxg_name (i := 3) nd rfl (by first | exact Or.inl rfl | exact Or.inr rfl)) (pxs_cons (pxs_asg (g := (.nm 4)) (px_lstM pxa_nil) (pxg_name (i := 4) nd rfl (by first | exact Or.inl rfl | exact Or.inr rfl)))
    (pxs_cons (pxs_for (g := (.nm 5)) pw rfl (pxi_seq (pxv 2)) (pxg_name (i := 5) nd rfl (by first | exact Or.inl rfl | exact Or.inr rfl)) (pxs_one (pxs_expr (px_extend (pxv 4) (pxa_cons (px_lc (g := (.nm 6)) [("seat", 6)] rfl nd (pxi_range1 rfl (T.free 10 rfl) (pxa_cons (pxv 1) pxa_nil)) (blkOk_by (by kernel_rfl)) (by decide) (fun _ _ _ _ _ => (pxg_name (i := 6) nd rfl (by first | exact Or.inl rfl | exact Or.inr rfl))) (fun _ _ _ _ _ => (pxif_one (pxt_val (px_call F__law_apart (hr.mono (by decide)) rfl (T.glo 17 rfl) K__law_apart B__law_apart takes_no (pxa_cons (px_sl (pxv 0) pxo_none (pxo_some (px_op opx_add (pxv 3) px_int))) (pxa_cons (px_op opx_add (pxv 5) (px_tup (pxa_cons (pxv 6) pxa_nil))) pxa_nil)))))) (fun _ _ _ _ _ => (px_op opx_add (pxv 5) (px_tup (pxa_cons (pxv 6) pxa_nil))))) pxa_nil)))))
    (pxs_one (pxs_pre 4 4 (pxs_asg (g := (.nm 2)) (pxv 4) (pxg_name (i := 2) nd rfl (by first | exact Or.inl rfl | exact Or.inr rfl))))))))
    (pxs_one (pxs_ret (pxv 2)))))
theorem sc_changes_of : FnScope ["old", "new", "place"] ["old", "new"] (defScope s_changes_of) := ⟨rfl, rfl, rfl, by decide +kernel, rfl, by decide +kernel, by decide +kernel⟩
theorem ok_changes_of (T : TT K mg) (TB : TBs K mg base) : ∃ fd, FnOk P w K mg base (L2.CX P w) 1 (He.fAd K d_changes_of.at_) fd ["old", "new"] (spM w K (Gc K) 2 m_changes_of) ∧ Binds K fd ["old", "new"] [] ∧ PySem.W.keepIn K (.ref (He.fAd K d_changes_of.at_)) = true := by
  obtain ⟨fd, F⟩ := T.c.def_ 11 (d := d_changes_of) rfl
  refine ⟨fd, ?_, FunD.bindsN F fun _ _ _ _ _ _ us hl => match us, hl with | [_, _], _ => rfl, F.kp⟩
  have nd : (["old", "new", "place"] : List Str).Nodup := sc_changes_of.nd
  refine fn_pure (fn_bodyD (N := ["old", "new", "place"]) F sc_changes_of fun cdv A outer s H E hr tk pw => ?_)
  have hu := hu65 hr
  have hu64 := hu64 hr
  unfold b_changes_of
  exact (pxs_one (pxs_ret (px_callB (cb_len) rfl (T.free 9 rfl) (pxa_cons (px_lc (g := (.nm 2)) [("place", 2)] rfl nd (pxi_range1 rfl (T.free 10 rfl) (pxa_cons (px_callB (cb_len) rfl (T.free 9 rfl) (pxa_cons (pxv 0) pxa_nil)) pxa_nil)) (blkOk_by (by kernel_rfl)) (by decide) (fun _ _ _ _ _ => (pxg_name (i := 2) nd rfl (by first | exact Or.inl rfl | exact Or.inr rfl))) (fun _ _ _ _ _ => (pxif_one (pxt_cmp (opx_ne hu64) (px_ix hu (pxv 0) (pxv 2) (fun _ _ => rfl)) (px_ix hu (pxv 1) (pxv 2) (fun _ _ => rfl)) (nomark _)))) (fun _ _ _ _ _ => (pxv 2))) pxa_nil))))
theorem sc_do_meet : FnScope ["one", "other"] ["one", "other"] (defScope s_do_meet) := ⟨rfl, rfl, rfl, by decide +kernel, rfl, by decide +kernel, by decide +kernel⟩
theorem ok_do_meet (T : TT K mg) (TB : TBs K mg base) : ∃ fd, FnOk P w K mg base (L2.CX P w) 1 (He.fAd K d_do_meet.at_) fd ["one", "other"] (spM w K (Gc K) 2 m_do_meet) ∧ Binds K fd ["one", "other"] [] ∧ PySem.W.keepIn K (.ref (He.fAd K d_do_meet.at_)) = true := by
  obtain ⟨fd, F⟩ := T.c.def_ 12 (d := d_do_meet) rfl
  refine ⟨fd, ?_, FunD.bindsN F fun _ _ _ _ _ _ us hl => match us, hl with | [_, _], _ => rfl, F.kp⟩
  have nd : (["one", "other"] : List Str).Nodup := sc_do_meet.nd
  refine fn_pure (fn_bodyD (N := ["one", "other"]) F sc_do_meet fun cdv A outer s H E hr tk pw => ?_)
  have hu := hu65 hr
  have hu64 := hu64 hr
  unfold b_do_meet
  exact (pxs_one (pxs_ret (px_and (px_cmp opx_lt (px_ix hu (pxv 0) px_int (fun _ _ => rfl)) (px_ix hu (pxv 1) px_int (fun _ _ => rfl)) (nomark _)) (px_one (px_cmp opx_lt (px_ix hu (pxv 1) px_int (fun _ _ => rfl)) (px_ix hu (pxv 0) px_int (fun _ _ => rfl)) (nomark _))))))
theorem sc_are_apart : FnScope ["asked", "value", "place", "one", "other"] ["asked", "value"] (defScope s_are_apart) := ⟨rfl, rfl, rfl, by decide +kernel, rfl, by decide +kernel, by decide +kernel⟩
theorem ok_are_apart (T : TT K mg) (TB : TBs K mg base) : ∃ fd, FnOk P w K mg base (L2.CX P w) 2 (He.fAd K d_are_apart.at_) fd ["asked", "value"] (spM w K (Gc K) 2 m_are_apart) ∧ Binds K fd ["asked", "value"] [] ∧ PySem.W.keepIn K (.ref (He.fAd K d_are_apart.at_)) = true := by
  obtain ⟨fd, F⟩ := T.c.def_ 13 (d := d_are_apart) rfl
  refine ⟨fd, ?_, FunD.bindsN F fun _ _ _ _ _ _ us hl => match us, hl with | [_, _], _ => rfl, F.kp⟩
  obtain ⟨fd_do_meet, F_do_meet, B_do_meet, K_do_meet⟩ := ok_do_meet (w := w) (base := base) T TB
  have nd : (["asked", "value", "place", "one", "other"] : List Str).Nodup := sc_are_apart.nd
  refine fn_pure (fn_bodyD (N := ["asked", "value", "place", "one", "other"]) F sc_are_apart fun cdv A outer s H E hr tk pw => ?_)
  have hu := hu65 hr
  have hu64 := hu64 hr
  unfold b_are_apart
  exact (pxs_cons (pxs_for (g := (.cons (.nm 2) (.cons (.nm 3) .nil))) pw rfl (pxi_enum rfl (T.free 18 rfl) (pxa_cons (pxv 0) pxa_nil)) (pxg_tup rfl (pxgs_cons (pxg_name (i := 2) nd rfl (by first | exact Or.inl rfl | exact Or.inr rfl)) (pxgs_cons (pxg_name (i := 3) nd rfl (by first | exact Or.inl rfl | exact Or.inr rfl)) pxgs_nil))) (pxs_one (pxs_for (g := (.nm 4)) pw rfl (pxi_range1 rfl (T.free 10 rfl) (pxa_cons (pxv 2) pxa_nil)) (pxg_name (i := 4) nd rfl (by first | exact Or.inl rfl | exact Or.inr rfl)) (pxs_one (pxs_if (pxt_w (pxw_and (pxt_cmp (opx_eq hu64) (px_ix hu (pxv 1) (pxv 2) (fun _ _ => rfl)) (px_ix hu (pxv 1) (pxv 4) (fun _ _ => rfl)) (nomark _)) (pxw_and1 (pxt_val (px_call F_do_meet (hr.mono (by decide)) rfl (T.glo 19 rfl) K_do_meet B_do_meet tk (pxa_cons (pxv 3) (pxa_cons (px_ix hu (pxv 0) (pxv 4) (fun _ _ => rfl)) pxa_nil))))))) (pxs_one (pxs_ret px_bl)) pxs_nil)))))
    (pxs_one (pxs_ret px_bl)))
theorem sc_is_row : FnScope ["value", "size"] ["value", "size"] (defScope s_is_row) := ⟨rfl, rfl, rfl, by decide +kernel, rfl, by decide +kernel, by decide +kernel⟩
theorem ok_is_row (T : TT K mg) (TB : TBs K mg base) : ∃ fd, FnOk P w K mg base (L2.CX P w) 1 (He.fAd K d_is_row.at_) fd ["value", "size"] (spM w K (Gc K) 2 m_is_row) ∧ Binds K fd ["value", "size"] [] ∧ PySem.W.keepIn K (.ref (He.fAd K d_is_row.at_)) = true := by
  obtain ⟨fd, F⟩ := T.c.def_ 14 (d := d_is_row) rfl
  refine ⟨fd, ?_, FunD.bindsN F fun _ _ _ _ _ _ us hl => match us, hl with | [_, _], _ => rfl, F.kp⟩
  have nd : (["value", "size"] : List Str).Nodup := sc_is_row.nd
  refine fn_pure (fn_bodyD (N := ["value", "size"]) F sc_is_row fun cdv A outer s H E hr tk pw => ?_)
  have hu := hu65 hr
  have hu64 := hu64 hr
  unfold b_is_row
  exact (pxs_one (pxs_ret (px_and (px_callB (cb_isi isOk) rfl (T.free 1 rfl) (pxa_cons (pxv 0) (pxa_cons (px_ty rfl (T.free 7 rfl) rfl) pxa_nil))) (px_one (px_cmp (opx_eq hu64) (px_callB (cb_len) rfl (T.free 9 rfl) (pxa_cons (pxv 0) pxa_nil)) (pxv 1) (nomark _))))))
theorem sc_is_stretch : FnScope ["line", "value"] ["line", "value"] (defScope s_is_stretch) := ⟨rfl, rfl, rfl, by decide +kernel, rfl, by decide +kernel, by decide +kernel⟩
theorem ok_is_stretch (T : TT K mg) (TB : TBs K mg base) : ∃ fd, FnOk P w K mg base (L2.CX P w) 3 (He.fAd K d_is_stretch.at_) fd ["line", "value"] (spM w K (Gc K) 2 m_is_stretch) ∧ Binds K fd ["line", "value"] [] ∧ PySem.W.keepIn K (.ref (He.fAd K d_is_stretch.at_)) = true := by
  obtain ⟨fd, F⟩ := T.c.def_ 15 (d := d_is_stretch) rfl
  refine ⟨fd, ?_, FunD.bindsN F fun _ _ _ _ _ _ us hl => match us, hl with | [_, _], _ => rfl, F.kp⟩
  obtain ⟨fd_is_row, F_is_row, B_is_row, K_is_row⟩ := ok_is_row (w := w) (base := base) T TB
  obtain ⟨fd_is_within, F_is_within, B_is_within, K_is_within⟩ := ok_is_within (w := w) (base := base) T TB
  have nd : (["line", "value"] : List Str).Nodup := sc_is_stretch.nd
  refine fn_pure (fn_bodyD (N := ["line", "value"]) F sc_is_stretch fun cdv A outer s H E hr tk pw => ?_)
  have hu := hu65 hr
  have hu64 := hu64 hr
  unfold b_is_stretch
  exact (pxs_cons (pxs_if (pxt_w (pxw_or (pxt_not (pxt_val (px_call F_is_row (hr.mono (by decide)) rfl (T.glo 20 rfl) K_is_row B_is_row tk (pxa_cons (pxv 1) (pxa_cons px_int pxa_nil))))) (pxw_or1 (pxt_not (pxt_val (px_call F_is_within (hr.mono (by decide)) rfl (T.glo 5 rfl) K_is_within B_is_within tk (pxa_cons (px_ix hu (pxv 1) px_int (fun _ _ => rfl)) (pxa_cons px_int (pxa_cons (px_op opx_sub (px_fld (pxv 0) (T.co_Line_legs)) px_int) pxa_nil))))))))) (pxs_one (pxs_ret px_bl)) pxs_nil)
    (pxs_one (pxs_ret (px_call F_is_within (hr.mono (by decide)) rfl (T.glo 5 rfl) K_is_within B_is_within tk (pxa_cons (px_ix hu (pxv 1) px_int (fun _ _ => rfl)) (pxa_cons (px_op opx_add (px_ix hu (pxv 1) px_int (fun _ _ => rfl)) px_int) (pxa_cons (px_fld (pxv 0) (T.co_Line_legs)) pxa_nil)))))))
theorem sc_place_told : FnScope ["place"] ["place"] (defScope s_place_told) := ⟨rfl, rfl, rfl, by decide +kernel, rfl, by decide +kernel, by decide +kernel⟩
theorem ok_place_told (T : TT K mg) (TB : TBs K mg base) : ∃ fd, FnOk P w K mg base (L2.CX P w) 1 (He.fAd K d_place_told.at_) fd ["place"] (spM w K (Gc K) 1 m_place_told) ∧ Binds K fd ["place"] [] ∧ PySem.W.keepIn K (.ref (He.fAd K d_place_told.at_)) = true := by
  obtain ⟨fd, F⟩ := T.c.def_ 16 (d := d_place_told) rfl
  refine ⟨fd, ?_, FunD.bindsN F fun _ _ _ _ _ _ us hl => match us, hl with | [_], _ => rfl, F.kp⟩
  have nd : (["place"] : List Str).Nodup := sc_place_told.nd
  refine fn_pure (fn_bodyD (N := ["place"]) F sc_place_told fun cdv A outer s H E hr tk pw => ?_)
  have hu := hu65 hr
  have hu64 := hu64 hr
  unfold b_place_told
  exact (pxs_one (pxs_ret (px_if (pxt_cmp (opx_eq hu64) (pxv 0) (px_neg px_int) (nomark _)) px_non (pxv 0))))
theorem sc_require_asked : FnScope ["line", "asked", "judge", "place"] ["line", "asked"] (defScope s_require_asked) := ⟨rfl, rfl, rfl, by decide +kernel, rfl, by decide +kernel, by decide +kernel⟩
theorem ok_require_asked (T : TT K mg) (TB : TBs K mg base) : ∃ fd, FnOk P w K mg base (L2.CX P w) 6 (He.fAd K d_require_asked.at_) fd ["line", "asked"] (spM w K (Gc K) 2 m_require_asked) ∧ Binds K fd ["line", "asked"] [] ∧ PySem.W.keepIn K (.ref (He.fAd K d_require_asked.at_)) = true := by
  obtain ⟨fd, F⟩ := T.c.def_ 17 (d := d_require_asked) rfl
  refine ⟨fd, ?_, FunD.bindsN F fun _ _ _ _ _ _ us hl => match us, hl with | [_, _], _ => rfl, F.kp⟩
  obtain ⟨fd_is_stretch, F_is_stretch, B_is_stretch, K_is_stretch⟩ := ok_is_stretch (w := w) (base := base) T TB
  obtain ⟨fd_place_told, F_place_told, B_place_told, K_place_told⟩ := ok_place_told (w := w) (base := base) T TB
  obtain ⟨fdW, FW⟩ := T.c.def_ 24 (d := d_first_wrong) rfl
  have nd : (["line", "asked", "judge", "place"] : List Str).Nodup := sc_require_asked.nd
  refine fn_pure (fn_bodyC (at_ := d_require_asked.at_) (st := s_require_asked) (N := ["line", "asked", "judge", "place"]) F sc_require_asked fun cdv A outer s H E hcd hr tk pw => ?_)
  have hu := hu65 hr
  have hu64 := hu64 hr
  subst hcd
  have LC : LawC (cxOf (L2.CX P w) P w K mg base ["line", "asked", "judge", "place"] "require_asked" (defScope s_require_asked) (He.fAd K d_require_asked.at_) (.ref (He.codeOf K d_require_asked.at_)) A outer s H E) (Gc K) 1 "require_asked.<locals>.<lambda>" (He.cT K ("require_asked", none)).2 (He.codeOf K d_require_asked.at_) := ⟨lamQ_require_asked, rfl, rfl, T.hu_require_asked, TB.require_asked, rfl⟩
  unfold b_require_asked
  exact (pxss_judge (ps := ["row", "ahead"]) (ji := 2) (pi := 3) (ai := 1) ⟨rfl, by decide +kernel, by decide, fun q cl doc pm cv ctv us hl => match us, hl with | [_, _], _ => rfl⟩ LC (lamQ_by (by kernel_rfl)) (pxg_name (i := 2) nd rfl (by first | exact Or.inl rfl | exact Or.inr rfl)) (pxg_name (i := 3) nd rfl (by first | exact Or.inl rfl | exact Or.inr rfl)) (pe_first (ps := ["row", "ahead"]) (kb := 3) (NT := ["value", "least", "most", "judge", "place", "row"]) hGa (lamQ_by (by kernel_rfl)) lamQ_require_asked ⟨rfl, by decide +kernel, by decide, fun q cl doc pm cv ctv us hl => match us, hl with | [_, _], _ => rfl⟩ rfl (hr.mono (by decide)) (fun A outer s H E f c' hr => have hu := Ev.hu65 hr; have hu64 := Ev.hu64 hr; (px_call F_is_stretch (hr.mono (by decide)) rfl (T.glo 21 rfl) K_is_stretch B_is_stretch takes_no (pxa_cons (pxv 0) (pxa_cons (pxv 4) pxa_nil)))) FW rfl (FunD.bindsN FW fun _ _ _ _ _ _ us hl => match us, hl with | [_, _, _, _], _ => rfl) sc_first_wrong rfl rfl (by first | exact Or.inl rfl | exact Or.inr (Or.inl rfl) | exact Or.inr (Or.inr rfl)) (fun cdv s H hr => have hu := Ev.hu65 hr; have hu64 := Ev.hu64 hr; have nd : (["value", "least", "most", "judge", "place", "row"] : List Str).Nodup := sc_first_wrong.nd; ⟨⟨passes_of rfl, rfl, (pxs_if (pxt_w (pxw_or (pxt_not (pxt_val (px_callB (cb_isi isOk) rfl (T.free 1 rfl) (pxa_cons (pxv 0) (pxa_cons (px_ty rfl (T.free 7 rfl) rfl) pxa_nil))))) (pxw_or1 (pxt_not (pxt_ch opx_le opx_le (pxv 1) (px_callB (cb_len) rfl (T.free 9 rfl) (pxa_cons (pxv 0) pxa_nil)) (pxv 2)))))) (pxs_one (pxs_ret (px_neg px_int))) pxs_nil), (pxi_enum rfl (T.free 18 rfl) (pxa_cons (pxv 0) pxa_nil)), (pxg_tup rfl (pxgs_cons (pxg_name (i := 4) nd rfl (by first | exact Or.inl rfl | exact Or.inr rfl)) (pxgs_cons (pxg_name (i := 5) nd rfl (by first | exact Or.inl rfl | exact Or.inr rfl)) pxgs_nil))), (pxa_cons (pxv 5) (pxa_cons (px_sl (pxv 0) pxo_none (pxo_some (pxv 4))) pxa_nil)), (pxs_ret (pxv 4)), (pxs_ret px_non), fun _ => rfl⟩, rfl, rfl⟩) rfl (T.glo 25 rfl) (by decide) (pxa_cons (pxv 1) (pxa_cons px_int (pxa_cons (px_gint rfl (T.int 22 rfl)) (pxa_cons (pxv 2) pxa_nil))))) (pxs_one (pxs_if (pxt_cmp opx_isnot (pxv 3) px_non (nomark _)) (pxs_one (pxs_raise T.sup_BadAsked rfl tk (hr.mono (by decide)) rfl (T.glo 24 rfl) (pxa_cons (px_call F_place_told (hr.mono (by decide)) rfl (T.glo 23 rfl) K_place_told B_place_told tk (pxa_cons (pxv 3) pxa_nil)) pxa_nil))) pxs_nil)) (by decide))
theorem sc_is_seating : FnScope ["line", "asked", "seats", "value", "seat"] ["line", "asked", "seats", "value"] (defScope s_is_seating) := ⟨rfl, rfl, rfl, by decide +kernel, rfl, by decide +kernel, by decide +kernel⟩
theorem ok_is_seating (T : TT K mg) (TB : TBs K mg base) : ∃ fd, FnOk P w K mg base (L2.CX P w) 7 (He.fAd K d_is_seating.at_) fd ["line", "asked", "seats", "value"] (spM w K (Gc K) 4 m_is_seating) ∧ Binds K fd ["line", "asked", "seats", "value"] [] ∧ PySem.W.keepIn K (.ref (He.fAd K d_is_seating.at_)) = true := by
  obtain ⟨fd, F⟩ := T.c.def_ 18 (d := d_is_seating) rfl
  refine ⟨fd, ?_, FunD.bindsN F fun _ _ _ _ _ _ us hl => match us, hl with | [_, _, _, _], _ => rfl, F.kp⟩
  obtain ⟨fd_require_asked, F_require_asked, B_require_asked, K_require_asked⟩ := ok_require_asked (w := w) (base := base) T TB
  obtain ⟨fd_is_within, F_is_within, B_is_within, K_is_within⟩ := ok_is_within (w := w) (base := base) T TB
  obtain ⟨fd_is_whole, F_is_whole, B_is_whole, K_is_whole⟩ := ok_is_whole (w := w) (base := base) T TB
  obtain ⟨fd_are_apart, F_are_apart, B_are_apart, K_are_apart⟩ := ok_are_apart (w := w) (base := base) T TB
  have nd : (["line", "asked", "seats", "value", "seat"] : List Str).Nodup := sc_is_seating.nd
  refine fn_pure (fn_bodyD (N := ["line", "asked", "seats", "value", "seat"]) F sc_is_seating fun cdv A outer s H E hr tk pw => ?_)
  have hu := hu65 hr
  have hu64 := hu64 hr
  unfold b_is_seating
  exact (pxs_cons (pxs_expr (px_call F_require_asked (hr.mono (by decide)) rfl (T.glo 26 rfl) K_require_asked B_require_asked tk (pxa_cons (pxv 0) (pxa_cons (pxv 1) pxa_nil))))
    (pxs_cons (pxs_if (pxt_not (pxt_val (px_call F_is_within (hr.mono (by decide)) rfl (T.glo 5 rfl) K_is_within B_is_within tk (pxa_cons (pxv 2) (pxa_cons px_int (pxa_cons (px_gint rfl (T.int 27 rfl)) pxa_nil)))))) (pxs_one (pxs_raise T.sup_BadNumber rfl tk (hr.mono (by decide)) rfl (T.glo 28 rfl) (pxa_cons (pxv 2) pxa_nil))) pxs_nil)
    (pxs_cons (pxs_if (pxt_w (pxw_or (pxt_not (pxt_val (px_callB (cb_isi isOk) rfl (T.free 1 rfl) (pxa_cons (pxv 3) (pxa_cons (px_ty rfl (T.free 7 rfl) rfl) pxa_nil))))) (pxw_or1 (pxt_cmp (opx_ne hu64) (px_callB (cb_len) rfl (T.free 9 rfl) (pxa_cons (pxv 3) pxa_nil)) (px_callB (cb_len) rfl (T.free 9 rfl) (pxa_cons (pxv 1) pxa_nil)) (nomark _))))) (pxs_one (pxs_ret px_bl)) pxs_nil)
    (pxs_one (pxs_ret (px_and (px_callB (cb_all rfl) rfl (T.free 29 rfl) (pxa_cons (px_lc (g := (.nm 4)) [("seat", 4)] rfl nd (pxi_seq (pxv 3)) (blkOk_by (by kernel_rfl)) (by decide) (fun _ _ _ _ _ => (pxg_name (i := 4) nd rfl (by first | exact Or.inl rfl | exact Or.inr rfl))) (fun _ _ _ _ _ => pxif_nil) (fun _ _ _ _ _ => (px_and (px_call F_is_whole (hr.mono (by decide)) rfl (T.glo 3 rfl) K_is_whole B_is_whole takes_no (pxa_cons (pxv 4) pxa_nil)) (px_one (px_ch opx_le opx_lt px_int (pxv 4) (pxv 2)))))) pxa_nil)) (px_one (px_call F_are_apart (hr.mono (by decide)) rfl (T.glo 30 rfl) K_are_apart B_are_apart tk (pxa_cons (pxv 1) (pxa_cons (pxv 3) pxa_nil))))))))))
theorem sc_reseatings : FnScope ["asked", "seats", "rows", "place", "longer", "row", "seat"] ["asked", "seats"] (defScope s_reseatings) := ⟨rfl, rfl, rfl, by decide +kernel, rfl, by decide +kernel, by decide +kernel⟩
theorem ok_reseatings (T : TT K mg) (TB : TBs K mg base) : ∃ fd, FnOk P w K mg base (L2.CX P w) 3 (He.fAd K d_reseatings.at_) fd ["asked", "seats"] (spM w K (Gc K) 2 m_reseatings) ∧ Binds K fd ["asked", "seats"] [] ∧ PySem.W.keepIn K (.ref (He.fAd K d_reseatings.at_)) = true := by
  obtain ⟨fd, F⟩ := T.c.def_ 19 (d := d_reseatings) rfl
  refine ⟨fd, ?_, FunD.bindsN F fun _ _ _ _ _ _ us hl => match us, hl with | [_, _], _ => rfl, F.kp⟩
  obtain ⟨fd_are_apart, F_are_apart, B_are_apart, K_are_apart⟩ := ok_are_apart (w := w) (base := base) T TB
  have nd : (["asked", "seats", "rows", "place", "longer", "row", "seat"] : List Str).Nodup := sc_reseatings.nd
  refine fn_pure (fn_bodyD (N := ["asked", "seats", "rows", "place", "longer", "row", "seat"]) F sc_reseatings fun cdv A outer s H E hr tk pw => ?_)
  have hu := hu65 hr
  have hu64 := hu64 hr
  unfold b_reseatings
  exact (pxs_cons (pxs_asg (g := (.nm 2)) (px_lst (pxa_cons (px_tup pxa_nil) pxa_nil)) (pxg_name (i := 2) nd rfl (by first | exact Or.inl rfl | exact Or.inr rfl)))
    (pxs_cons (pxs_for (g := (.nm 3)) pw rfl (pxi_range1 rfl (T.free 10 rfl) (pxa_cons (px_callB (cb_len) rfl (T.free 9 rfl) (pxa_cons (pxv 0) pxa_nil)) pxa_nil)) (pxg_name (i := 3) nd rfl (by first | exact Or.inl rfl | exact Or.inr rfl)) (pxs_cons (pxs_asg (g := (.nm 4)) (px_lstM pxa_nil) (pxg_name (i := 4) nd rfl (by first | exact Or.inl rfl | exact Or.inr rfl)))
    (pxs_cons (pxs_for (g := (.nm 5)) pw rfl (pxi_seq (pxv 2)) (pxg_name (i := 5) nd rfl (by first | exact Or.inl rfl | exact Or.inr rfl)) (pxs_one (pxs_expr (px_extend (pxv 4) (pxa_cons (px_lc (g := (.nm 6)) [("seat", 6)] rfl nd (pxi_range1 rfl (T.free 10 rfl) (pxa_cons (pxv 1) pxa_nil)) (blkOk_by (by kernel_rfl)) (by decide) (fun _ _ _ _ _ => (pxg_name (i := 6) nd rfl (by first | exact Or.inl rfl | exact Or.inr rfl))) (fun _ _ _ _ _ => (pxif_one (pxt_val (px_call F_are_apart (hr.mono (by decide)) rfl (T.glo 30 rfl) K_are_apart B_are_apart takes_no (pxa_cons (px_sl (pxv 0) pxo_none (pxo_some (px_op opx_add (pxv 3) px_int))) (pxa_cons (px_op opx_add (pxv 5) (px_tup (pxa_cons (pxv 6) pxa_nil))) pxa_nil)))))) (fun _ _ _ _ _ => (px_op opx_add (pxv 5) (px_tup (pxa_cons (pxv 6) pxa_nil))))) pxa_nil)))))
    (pxs_one (pxs_pre 4 4 (pxs_asg (g := (.nm 2)) (pxv 4) (pxg_name (i := 2) nd rfl (by first | exact Or.inl rfl | exact Or.inr rfl))))))))
    (pxs_one (pxs_ret (pxv 2)))))
theorem sc_fewest_moves : FnScope ["line", "asked", "value", "seats", "rows", "row"] ["line", "asked", "value", "seats"] (defScope s_fewest_moves) := ⟨rfl, rfl, rfl, by decide +kernel, rfl, by decide +kernel, by decide +kernel⟩
theorem ok_fewest_moves (T : TT K mg) (TB : TBs K mg base) : ∃ fd, FnOk P w K mg base (L2.CX P w) 8 (He.fAd K d_fewest_moves.at_) fd ["line", "asked", "value", "seats"] (spM w K (Gc K) 4 m_fewest_moves) ∧ Binds K fd ["line", "asked", "value", "seats"] [] ∧ PySem.W.keepIn K (.ref (He.fAd K d_fewest_moves.at_)) = true := by
  obtain ⟨fd, F⟩ := T.c.def_ 20 (d := d_fewest_moves) rfl
  refine ⟨fd, ?_, FunD.bindsN F fun _ _ _ _ _ _ us hl => match us, hl with | [_, _, _, _], _ => rfl, F.kp⟩
  obtain ⟨fd_require_asked, F_require_asked, B_require_asked, K_require_asked⟩ := ok_require_asked (w := w) (base := base) T TB
  obtain ⟨fd_is_within, F_is_within, B_is_within, K_is_within⟩ := ok_is_within (w := w) (base := base) T TB
  obtain ⟨fd_is_seating, F_is_seating, B_is_seating, K_is_seating⟩ := ok_is_seating (w := w) (base := base) T TB
  obtain ⟨fd_reseatings, F_reseatings, B_reseatings, K_reseatings⟩ := ok_reseatings (w := w) (base := base) T TB
  obtain ⟨fd_changes_of, F_changes_of, B_changes_of, K_changes_of⟩ := ok_changes_of (w := w) (base := base) T TB
  have nd : (["line", "asked", "value", "seats", "rows", "row"] : List Str).Nodup := sc_fewest_moves.nd
  refine fn_pure (fn_bodyD (N := ["line", "asked", "value", "seats", "rows", "row"]) F sc_fewest_moves fun cdv A outer s H E hr tk pw => ?_)
  have hu := hu65 hr
  have hu64 := hu64 hr
  unfold b_fewest_moves
  exact (pxs_cons (pxs_expr (px_call F_require_asked (hr.mono (by decide)) rfl (T.glo 26 rfl) K_require_asked B_require_asked tk (pxa_cons (pxv 0) (pxa_cons (pxv 1) pxa_nil))))
    (pxs_cons (pxs_if (pxt_cmp opx_gt (px_callB (cb_len) rfl (T.free 9 rfl) (pxa_cons (pxv 1) pxa_nil)) (px_gint rfl (T.int 31 rfl)) (nomark _)) (pxs_one (pxs_raise T.sup_BadAsked rfl tk (hr.mono (by decide)) rfl (T.glo 24 rfl) (pxa_cons px_non pxa_nil))) pxs_nil)
    (pxs_cons (pxs_if (pxt_not (pxt_val (px_call F_is_within (hr.mono (by decide)) rfl (T.glo 5 rfl) K_is_within B_is_within tk (pxa_cons (pxv 3) (pxa_cons px_int (pxa_cons px_int pxa_nil)))))) (pxs_one (pxs_raise T.sup_BadNumber rfl tk (hr.mono (by decide)) rfl (T.glo 28 rfl) (pxa_cons (pxv 3) pxa_nil))) pxs_nil)
    (pxs_cons (pxs_if (pxt_w (pxw_or (pxt_cmp (opx_eq hu64) (pxv 1) (px_tup pxa_nil) (nomark _)) (pxw_or1 (pxt_not (pxt_val (px_call F_is_seating (hr.mono (by decide)) rfl (T.glo 32 rfl) K_is_seating B_is_seating tk (pxa_cons (pxv 0) (pxa_cons (px_sl (pxv 1) pxo_none (pxo_some (px_neg px_int))) (pxa_cons (pxv 3) (pxa_cons (pxv 2) pxa_nil)))))))))) (pxs_one (pxs_raise T.sup_BadNumber rfl tk (hr.mono (by decide)) rfl (T.glo 28 rfl) (pxa_cons px_non pxa_nil))) pxs_nil)
    (pxs_cons (pxs_setLc (i := 4) (g := (.nm 5)) [("row", 5)] rfl nd rfl rfl (sw_true rfl rfl rfl (by decide +kernel)) (pxi_seq (px_call F_reseatings (hr.mono (by decide)) rfl (T.glo 33 rfl) K_reseatings B_reseatings tk (pxa_cons (pxv 1) (pxa_cons (pxv 3) pxa_nil)))) (blkOk_by (by kernel_rfl)) (by decide) (fun _ _ _ _ _ => (pxg_name (i := 5) nd rfl (by first | exact Or.inl rfl | exact Or.inr rfl))) (fun _ _ _ _ _ => pxif_nil) (fun _ _ _ _ _ => (px_tup (pxa_cons (px_call F_changes_of (hr.mono (by decide)) rfl (T.glo 34 rfl) K_changes_of B_changes_of takes_no (pxa_cons (pxv 2) (pxa_cons (pxv 5) pxa_nil))) (pxa_cons (pxv 5) pxa_nil)))))
    (pxs_one (pxs_ret (px_if (pxt_cmp (opx_ne hu64) (pxv 4) (px_lst pxa_nil) (nomark _)) (px_callB (cb_minD hu rfl) rfl (T.free 35 rfl) (pxa_cons (pxv 4) pxa_nil)) px_non))))))))
theorem sc_law : FnScope ["script", "row", "turn", "legs", "seats", "line", "asks", "value", "kept", "one", "free", "seat", "more", "found", "k", "weak", "odd", "told", "due"] ["script"] (defScope s_law) := ⟨rfl, rfl, rfl, by decide +kernel, rfl, by decide +kernel, by decide +kernel⟩
theorem ok_law (T : TT K mg) (TB : TBs K mg base) {fd : FuncData} (F : FunD K d_law.name d_law.qual d_law.params d_law.body d_law.scope (d_law.dvs K) (d_law.kws K) (He.fAd K d_law.at_) fd) : FnG P w K mg base (L2.CX P w) 11 (He.fAd K d_law.at_) fd ["script"] (spM w K (Gc K) 1 m_law) := by
  obtain ⟨fd__law_taken, F__law_taken, B__law_taken, K__law_taken⟩ := ok__law_taken (w := w) (base := base) T TB
  obtain ⟨fd_Line___init__, F_Line___init__, B_Line___init__, K_Line___init__⟩ := ok_Line___init__ (w := w) (base := base) T TB
  obtain ⟨fd__law_pick, F__law_pick, B__law_pick, K__law_pick⟩ := ok__law_pick (w := w) (base := base) T TB
  obtain ⟨fd__law_asked, F__law_asked, B__law_asked, K__law_asked⟩ := ok__law_asked (w := w) (base := base) T TB
  obtain ⟨fd__law_apart, F__law_apart, B__law_apart, K__law_apart⟩ := ok__law_apart (w := w) (base := base) T TB
  obtain ⟨fd__law_all, F__law_all, B__law_all, K__law_all⟩ := ok__law_all (w := w) (base := base) T TB
  obtain ⟨fd__law_seatings, F__law_seatings, B__law_seatings, K__law_seatings⟩ := ok__law_seatings (w := w) (base := base) T TB
  obtain ⟨fd_fewest_moves, F_fewest_moves, B_fewest_moves, K_fewest_moves⟩ := ok_fewest_moves (w := w) (base := base) T TB
  obtain ⟨fd__law_alike, F__law_alike, B__law_alike, K__law_alike⟩ := ok__law_alike (w := w) (base := base) T TB
  obtain ⟨fd__law_same, F__law_same, B__law_same, K__law_same⟩ := ok__law_same (w := w) (base := base) T TB
  have nd : (["script", "row", "turn", "legs", "seats", "line", "asks", "value", "kept", "one", "free", "seat", "more", "found", "k", "weak", "odd", "told", "due"] : List Str).Nodup := sc_law.nd
  refine fnG_pure (fn_bodyG (at_ := d_law.at_) (st := s_law) (N := ["script", "row", "turn", "legs", "seats", "line", "asks", "value", "kept", "one", "free", "seat", "more", "found", "k", "weak", "odd", "told", "due"]) F sc_law fun cdv A outer s H E hgA hcd hr tk pw => ?_)
  have hu := hu65 hr
  have hu64 := hu64 hr
  subst hcd
  have LC : LawC (cxOf (L2.CX P w) P w K mg base ["script", "row", "turn", "legs", "seats", "line", "asks", "value", "kept", "one", "free", "seat", "more", "found", "k", "weak", "odd", "told", "due"] "law" (defScope s_law) (He.fAd K d_law.at_) (.ref (He.codeOf K d_law.at_)) A outer s H E) (Gc K) 0 "law.<locals>.<lambda>" (He.cT K ("law", none)).2 (He.codeOf K d_law.at_) := ⟨lamQ_law, rfl, rfl, T.hu_law, TB.law, rfl⟩
  unfold b_law
  exact (pxs_cons (pxs_asg (g := (.nm 1)) (px_lstM (pxa_cons (pxv 0) (pxa_cons px_int (pxa_cons px_int (pxa_cons px_int pxa_nil))))) (pxg_name (i := 1) nd rfl (by first | exact Or.inl rfl | exact Or.inr rfl)))
    (pxs_cons (pxs_for (g := (.nm 2)) pw rfl (pxi_range1 rfl (T.free 10 rfl) (pxa_cons px_int pxa_nil)) (pxg_name (i := 2) nd rfl (by first | exact Or.inl rfl | exact Or.inr rfl)) (pxs_cons (pxs_asg (g := (.cons (.nm 3) (.cons (.nm 4) .nil))) (px_tup (pxa_cons (px_op opx_add px_int (px_call F__law_taken (hr.mono (by decide)) rfl (T.glo 13 rfl) K__law_taken B__law_taken tk (pxa_cons (pxv 1) (pxa_cons px_int pxa_nil)))) (pxa_cons (px_op opx_add px_int (px_call F__law_taken (hr.mono (by decide)) rfl (T.glo 13 rfl) K__law_taken B__law_taken tk (pxa_cons (pxv 1) (pxa_cons px_int pxa_nil)))) pxa_nil))) (pxg_tup rfl (pxgs_cons (pxg_name (i := 3) nd rfl (by first | exact Or.inl rfl | exact Or.inr rfl)) (pxgs_cons (pxg_name (i := 4) nd rfl (by first | exact Or.inl rfl | exact Or.inr rfl)) pxgs_nil))))
    (pxs_cons (pxs_asg (g := (.cons (.nm 5) (.cons (.nm 6) .nil))) (px_tup (pxa_cons (px_frz 8 (px_make (T.mkr 36 rfl) rfl F_Line___init__ (hr.mono (by decide)) rfl (T.glo 37 rfl) B_Line___init__ tk (pxa_cons (pxv 3) (pxa_cons px_int pxa_nil)))) (pxa_cons (px_call F__law_asked (hr.mono (by decide)) rfl (T.glo 38 rfl) K__law_asked B__law_asked tk (pxa_cons (pxv 1) (pxa_cons (pxv 3) (pxa_cons (px_call F__law_pick (hr.mono (by decide)) rfl (T.glo 15 rfl) K__law_pick B__law_pick tk (pxa_cons (pxv 1) (pxa_cons (px_lst (pxa_cons px_int (pxa_cons px_int pxa_nil))) pxa_nil))) pxa_nil)))) pxa_nil))) (pxg_tup rfl (pxgs_cons (pxg_name (i := 5) nd rfl (by first | exact Or.inl rfl | exact Or.inr rfl)) (pxgs_cons (pxg_name (i := 6) nd rfl (by first | exact Or.inl rfl | exact Or.inr rfl)) pxgs_nil))))
    (pxs_cons (pxs_asg (g := (.cons (.nm 7) (.cons (.nm 8) .nil))) (px_tup (pxa_cons (px_tup pxa_nil) (pxa_cons (px_tup pxa_nil) pxa_nil))) (pxg_tup rfl (pxgs_cons (pxg_name (i := 7) nd rfl (by first | exact Or.inl rfl | exact Or.inr rfl)) (pxgs_cons (pxg_name (i := 8) nd rfl (by first | exact Or.inl rfl | exact Or.inr rfl)) pxgs_nil))))
    (pxs_cons (pxs_for (g := (.nm 9)) pw rfl (pxi_seq (pxv 6)) (pxg_name (i := 9) nd rfl (by first | exact Or.inl rfl | exact Or.inr rfl)) (pxs_cons (pxs_setLc (i := 10) (g := (.nm 11)) [("seat", 11)] rfl nd rfl rfl (sw_true rfl rfl rfl (by decide +kernel)) (pxi_range1 rfl (T.free 10 rfl) (pxa_cons (pxv 4) pxa_nil)) (blkOk_by (by kernel_rfl)) (by decide) (fun _ _ _ _ _ => (pxg_name (i := 11) nd rfl (by first | exact Or.inl rfl | exact Or.inr rfl))) (fun _ _ _ _ _ => (pxif_one (pxt_val (px_call F__law_apart (hr.mono (by decide)) rfl (T.glo 17 rfl) K__law_apart B__law_apart takes_no (pxa_cons (px_op opx_add (pxv 8) (px_tup (pxa_cons (pxv 9) pxa_nil))) (pxa_cons (px_op opx_add (pxv 7) (px_tup (pxa_cons (pxv 11) pxa_nil))) pxa_nil)))))) (fun _ _ _ _ _ => (pxv 11)))
    (pxs_one (pxs_if (pxt_cmp (opx_ne hu64) (pxv 10) (px_lst pxa_nil) (nomark _)) (pxs_one (pxs_asg (g := (.cons (.nm 8) (.cons (.nm 7) .nil))) (px_tup (pxa_cons (px_op opx_add (pxv 8) (px_tup (pxa_cons (pxv 9) pxa_nil))) (pxa_cons (px_op opx_add (pxv 7) (px_tup (pxa_cons (px_call F__law_pick (hr.mono (by decide)) rfl (T.glo 15 rfl) K__law_pick B__law_pick tk (pxa_cons (pxv 1) (pxa_cons (pxv 10) pxa_nil))) pxa_nil))) pxa_nil))) (pxg_tup rfl (pxgs_cons (pxg_name (i := 8) nd rfl (by first | exact Or.inl rfl | exact Or.inr rfl)) (pxgs_cons (pxg_name (i := 7) nd rfl (by first | exact Or.inl rfl | exact Or.inr rfl)) pxgs_nil))))) pxs_nil))))
    (pxs_cons (pxs_asg (g := (.nm 12)) (px_op opx_add (pxv 8) (px_tup (pxa_cons (px_call F__law_pick (hr.mono (by decide)) rfl (T.glo 15 rfl) K__law_pick B__law_pick tk (pxa_cons (pxv 1) (pxa_cons (px_call F__law_all (hr.mono (by decide)) rfl (T.glo 14 rfl) K__law_all B__law_all tk (pxa_cons (pxv 3) pxa_nil)) pxa_nil))) pxa_nil))) (pxg_name (i := 12) nd rfl (by first | exact Or.inl rfl | exact Or.inr rfl)))
    (pxs_cons (pxs_setLc (i := 13) (g := (.nm 9)) [("one", 9)] rfl nd rfl rfl (sw_true rfl rfl rfl (by decide +kernel)) (pxi_seq (px_call F__law_seatings (hr.mono (by decide)) rfl (T.glo 39 rfl) K__law_seatings B__law_seatings tk (pxa_cons (pxv 12) (pxa_cons (pxv 4) pxa_nil)))) (blkOk_by (by kernel_rfl)) (by decide) (fun _ _ _ _ _ => (pxg_name (i := 9) nd rfl (by first | exact Or.inl rfl | exact Or.inr rfl))) (fun _ _ _ _ _ => pxif_nil) (fun _ _ _ _ _ => (px_tup (pxa_cons (px_callB (cb_len) rfl (T.free 9 rfl) (pxa_cons (px_lc (g := (.nm 14)) [("k", 14)] rfl nd (pxi_range1 rfl (T.free 10 rfl) (pxa_cons (px_callB (cb_len) rfl (T.free 9 rfl) (pxa_cons (pxv 7) pxa_nil)) pxa_nil)) (blkOk_by (by kernel_rfl)) (by decide) (fun _ _ _ _ _ => (pxg_name (i := 14) nd rfl (by first | exact Or.inl rfl | exact Or.inr rfl))) (fun _ _ _ _ _ => (pxif_one (pxt_cmp (opx_ne hu64) (px_ix hu (pxv 7) (pxv 14) (fun _ _ => rfl)) (px_ix hu (pxv 9) (pxv 14) (fun _ _ => rfl)) (nomark _)))) (fun _ _ _ _ _ => (pxv 14))) pxa_nil)) (pxa_cons (pxv 9) pxa_nil)))))
    (pxs_cons (pxs_if (pxt_not (pxt_val (px_call F__law_alike (hr.mono (by decide)) rfl (T.glo 11 rfl) K__law_alike B__law_alike tk (pxa_cons (px_call F_fewest_moves (hr.mono (by decide)) rfl (T.glo 40 rfl) K_fewest_moves B_fewest_moves tk (pxa_cons (pxv 5) (pxa_cons (pxv 12) (pxa_cons (pxv 7) (pxa_cons (pxv 4) pxa_nil))))) (pxa_cons (px_if (pxt_cmp (opx_ne hu64) (pxv 13) (px_lst pxa_nil) (nomark _)) (px_callB (cb_minD hu rfl) rfl (T.free 35 rfl) (pxa_cons (pxv 13) pxa_nil)) px_non) pxa_nil))))) (pxs_one (pxs_ret px_bl)) pxs_nil)
    (pxs_cons (pxs_asg (g := (.nm 15)) (px_call F__law_pick (hr.mono (by decide)) rfl (T.glo 15 rfl) K__law_pick B__law_pick tk (pxa_cons (pxv 1) (pxa_cons (px_lst (pxa_cons px_int (pxa_cons px_int (pxa_cons px_non (pxa_cons px_bl pxa_nil))))) pxa_nil))) (pxg_name (i := 15) nd rfl (by first | exact Or.inl rfl | exact Or.inr rfl)))
    (pxs_cons (pxs_asg (g := (.nm 16)) (px_call F__law_pick (hr.mono (by decide)) rfl (T.glo 15 rfl) K__law_pick B__law_pick tk (pxa_cons (pxv 1) (pxa_cons (px_lst (pxa_cons px_non (pxa_cons (px_callTy (cb_list rfl) rfl (T.free 8 rfl) (pxa_cons (pxv 7) pxa_nil)) (pxa_cons (px_op opx_add (pxv 7) (px_tup (pxa_cons px_int pxa_nil))) (pxa_cons (px_if (pxt_cmp (opx_ne hu64) (pxv 7) (px_tup pxa_nil) (nomark _)) (px_op opx_mul (px_tup (pxa_cons px_int pxa_nil)) (px_callB (cb_len) rfl (T.free 9 rfl) (pxa_cons (pxv 7) pxa_nil))) px_int) (pxa_cons px_int (pxa_cons (px_op opx_mul (px_tup (pxa_cons px_int pxa_nil)) (px_op opx_add (px_callB (cb_len) rfl (T.free 9 rfl) (pxa_cons (pxv 7) pxa_nil)) px_int)) pxa_nil))))))) pxa_nil))) (pxg_name (i := 16) nd rfl (by first | exact Or.inl rfl | exact Or.inr rfl)))
    (pxs_cons (pxs_asg (g := (.nm 17)) (px_lst (pxa_cons (px_toldK rfl T LC (lamQ_by (by kernel_rfl)) (.none rfl fun q cl doc pm cv ctv => rfl) (hr.mono (by decide)) rfl fun A outer s H E f c' hr tk => have hu := Ev.hu65 hr; have hu64 := Ev.hu64 hr; (px_call F_fewest_moves (hr.mono (by decide)) rfl (T.glo 40 rfl) K_fewest_moves B_fewest_moves tk (pxa_cons (pxv 5) (pxa_cons (pxv 12) (pxa_cons (pxv 7) (pxa_cons (pxv 15) pxa_nil)))))) (pxa_cons (px_toldK rfl T LC (lamQ_by (by kernel_rfl)) (.one "a" 0 _ _ rfl rfl rfl fun q cl T doc pm cv ctv => ⟨_, rfl, fun u => rfl⟩) (hr.mono (by decide)) rfl fun A outer s H E f c' hr tk => have hu := Ev.hu65 hr; have hu64 := Ev.hu64 hr; (px_call F_fewest_moves (hr.mono (by decide)) rfl (T.glo 40 rfl) K_fewest_moves B_fewest_moves tk (pxa_cons (pxv 5) (pxa_cons (pxv 12) (pxa_cons (pxv 16) (pxa_cons (pxv 4) pxa_nil)))))) (pxa_cons (px_toldK rfl T LC (lamQ_by (by kernel_rfl)) (.one "b" 0 _ _ rfl rfl rfl fun q cl T doc pm cv ctv => ⟨_, rfl, fun u => rfl⟩) (hr.mono (by decide)) rfl fun A outer s H E f c' hr tk => have hu := Ev.hu65 hr; have hu64 := Ev.hu64 hr; (px_call F_fewest_moves (hr.mono (by decide)) rfl (T.glo 40 rfl) K_fewest_moves B_fewest_moves tk (pxa_cons (pxv 5) (pxa_cons (px_tup pxa_nil) (pxa_cons (px_tup pxa_nil) (pxa_cons (pxv 4) pxa_nil)))))) pxa_nil)))) (pxg_name (i := 17) nd rfl (by first | exact Or.inl rfl | exact Or.inr rfl)))
    (pxs_cons (pxs_asg (g := (.nm 17)) (px_op opx_add (pxv 17) (px_lst (pxa_cons (px_toldK rfl T LC (lamQ_by (by kernel_rfl)) (.one "c" 0 _ _ rfl rfl rfl fun q cl T doc pm cv ctv => ⟨_, rfl, fun u => rfl⟩) (hr.mono (by decide)) rfl fun A outer s H E f c' hr tk => have hu := Ev.hu65 hr; have hu64 := Ev.hu64 hr; (px_call F_fewest_moves (hr.mono (by decide)) rfl (T.glo 40 rfl) K_fewest_moves B_fewest_moves tk (pxa_cons (pxv 5) (pxa_cons (px_op opx_mul (px_tup (pxa_cons (px_tup (pxa_cons px_int (pxa_cons px_int pxa_nil))) pxa_nil)) px_int) (pxa_cons px_int (pxa_cons (px_neg px_int) pxa_nil)))))) (pxa_cons (px_toldK rfl T LC (lamQ_by (by kernel_rfl)) (.one "d" 0 _ _ rfl rfl rfl fun q cl T doc pm cv ctv => ⟨_, rfl, fun u => rfl⟩) (hr.mono (by decide)) rfl fun A outer s H E f c' hr tk => have hu := Ev.hu65 hr; have hu64 := Ev.hu64 hr; (px_call F_fewest_moves (hr.mono (by decide)) rfl (T.glo 40 rfl) K_fewest_moves B_fewest_moves tk (pxa_cons (pxv 5) (pxa_cons px_non (pxa_cons px_int (pxa_cons (px_neg px_int) pxa_nil)))))) pxa_nil)))) (pxg_name (i := 17) nd rfl (by first | exact Or.inl rfl | exact Or.inr rfl)))
    (pxs_cons (pxs_asg (g := (.nm 17)) (px_op opx_add (pxv 17) (px_lst (pxa_cons (px_toldK rfl T LC (lamQ_by (by kernel_rfl)) (.one "e" 0 _ _ rfl rfl rfl fun q cl T doc pm cv ctv => ⟨_, rfl, fun u => rfl⟩) (hr.mono (by decide)) rfl fun A outer s H E f c' hr tk => have hu := Ev.hu65 hr; have hu64 := Ev.hu64 hr; (px_call F_fewest_moves (hr.mono (by decide)) rfl (T.glo 40 rfl) K_fewest_moves B_fewest_moves tk (pxa_cons (pxv 5) (pxa_cons (px_op opx_add (pxv 12) (px_tup (pxa_cons (px_tup (pxa_cons px_int (pxa_cons px_int pxa_nil))) pxa_nil))) (pxa_cons (pxv 7) (pxa_cons (pxv 4) pxa_nil)))))) pxa_nil))) (pxg_name (i := 17) nd rfl (by first | exact Or.inl rfl | exact Or.inr rfl)))
    (pxs_cons (pxs_asg (g := (.nm 18)) (px_lst (pxa_cons (px_tup (pxa_cons px_str (pxa_cons (pxv 15) pxa_nil))) (pxa_cons (px_tup (pxa_cons px_str (pxa_cons px_non pxa_nil))) (pxa_cons (px_tup (pxa_cons px_str (pxa_cons px_non pxa_nil))) (pxa_cons (px_tup (pxa_cons px_str (pxa_cons px_non pxa_nil))) (pxa_cons (px_tup (pxa_cons px_str (pxa_cons px_non pxa_nil))) (pxa_cons (px_tup (pxa_cons px_str (pxa_cons (px_callB (cb_len) rfl (T.free 9 rfl) (pxa_cons (pxv 12) pxa_nil)) pxa_nil))) pxa_nil))))))) (pxg_name (i := 18) nd rfl (by first | exact Or.inl rfl | exact Or.inr rfl)))
    (pxs_one (pxs_if (pxt_not (pxt_val (px_callG (guards_deeper hgA) F__law_same (hr.mono (by decide)) rfl (T.glo 41 rfl) K__law_same B__law_same tk (pxa_cons (pxv 17) (pxa_cons (pxv 18) pxa_nil))))) (pxs_one (pxs_ret px_bl)) pxs_nil))))))))))))))))
    (pxs_one (pxs_ret px_bl))))
end
end K
end S_L08
section S_B08
open PySem PySem.Spec PyProof.Rows L2 Ev
namespace K
def eLine (l s : Nat) : PV := .ins c_Line ["legs", "seats"] [.int (l : Int), .int (s : Int)]
theorem fld_legs {l s : Nat} {env : EE} {st st1 : Sto} {r : RX} (h : r env st = .ok (.p (eLine l s)) st1) : rFld (fun c => c == c_Line) "legs" r env st = .ok (.p (.int (l : Int))) st1 := fld_of h rfl rfl
theorem fld_seats {l s : Nat} {env : EE} {st st1 : Sto} {r : RX} (h : r env st = .ok (.p (eLine l s)) st1) : rFld (fun c => c == c_Line) "seats" r env st = .ok (.p (.int (s : Int))) st1 := fld_of h rfl rfl
def spans (L : Nat) : List (Nat × Nat) := (List.range L).flatMap fun a => ((List.range (L + 1 - (a + 1))).map (a + 1 + ·)).map fun b => (a, b)
theorem map_get {α : Type} (e : α → PV) {xs : List α} {k : Nat} {x : α} (h : xs[k]? = some x) : (xs.map e)[k]? = some (e x) := by rw [List.getElem?_map, h]; rfl
theorem getD_get {α : Type} {xs : List α} {k : Nat} {d : α} (h : k < xs.length) : xs[k]? = some (xs.getD k d) := by
  rw [List.getD_eq_getElem?_getD, List.getElem?_eq_getElem h]; rfl
theorem spans_len {L : Nat} (h : L ≤ 20) : (spans L).length ≤ 1000 := by
  have : ∀ L ≤ 20, (spans L).length ≤ 1000 := by decide
  exact this L h
theorem mem_spans {L : Nat} {p : Nat × Nat} : p ∈ spans L ↔ p.1 < p.2 ∧ p.2 ≤ L := by
  unfold spans
  simp only [List.mem_flatMap, List.mem_map, List.mem_range]
  constructor
  · rintro ⟨a, ha, b, ⟨k, hk, rfl⟩, rfl⟩
    dsimp only
    omega
  · rintro ⟨h1, h2⟩
    exact ⟨p.1, by omega, p.2, ⟨p.2 - p.1 - 1, by omega, by omega⟩, rfl⟩
theorem law_all_ok {L : Nat} (h : L ≤ 20) (st : Sto) : m__law_all [.p (.int (L : Int))] st = .ok (.p (.lst ((spans L).map eSp))) st := by
  have loop : ∀ (l : List Nat) (acc : List (Nat × Nat)) (x y : Option VV), (∀ a ∈ l, a < L) → acc.length + l.length * 20 ≤ 10000 → ∃ x' y', forGo (.nm 2) (sExpr (rBM isL bExtend (rVar 1) (rCons (rLc [3] (rRange2 (rCons (r2 pAdd (rVar 2) (rC (.int 1))) (rCons (r2 pAdd (rVar 0) (rC (.int 1))) rNil))) (.nm 3) rYes (rTup (rCons (rVar 2) (rCons (rVar 3) rNil)))) rNil)))
      (l.map fun k : Nat => .int (k : Int)) [some (.p (.int (L : Int))), some (.ref 0), x, y] [some (.lst false (acc.map eSp))] =
      .nx [some (.p (.int (L : Int))), some (.ref 0), x', y'] [some (.lst false ((acc ++ l.flatMap fun a => ((List.range (L + 1 - (a + 1))).map (a + 1 + ·)).map fun b => (a, b)).map eSp))] := by
    intro l
    induction l with
    | nil => intro acc x y _ _; exact ⟨x, y, by rw [List.flatMap_nil, List.append_nil]; rfl⟩
    | cons a l ih =>
      intro acc x y hl hn
      have ha := hl a List.mem_cons_self
      rw [List.length_cons] at hn
      obtain ⟨x', y', e⟩ := ih (acc ++ ((List.range (L + 1 - (a + 1))).map (a + 1 + ·)).map fun b => (a, b)) (some (.p (.int (a : Int)))) y (fun z hz => hl z (List.mem_cons_of_mem _ hz)) (by simp; omega)
      refine ⟨x', y', ?_⟩
      rw [List.map_cons, List.flatMap_cons, ← List.append_assoc]
      refine (for_nx (e1 := [some (.p (.int (L : Int))), some (.ref 0), some (.p (.int (a : Int))), y]) rfl (expr_of (x := .p .non) (st1 := [some (.lst false ((acc ++ ((List.range (L + 1 - (a + 1))).map (a + 1 + ·)).map fun b => (a, b)).map eSp))]) ?_)).trans e
      refine bm_of (v_of rfl) rfl (one_of (lc_map ((List.range (L + 1 - (a + 1))).map (a + 1 + ·)) (fun k : Nat => .int (k : Int)) (fun b => eSp (a, b)) (range2_of (a := a + 1) (b := L + 1) (two_of (op_of (v_of rfl) c_of rfl) (op_of (v_of rfl) c_of rfl)) (by omega) (by omega)) (lt rfl) (fun b _ => tup_of (two_of (v_of rfl) (v_of rfl)) rfl) (by simp; omega))) ?_
      show (if (acc.map eSp).length + _ ≤ 16777216 then (Res.ok _ _ : Res VV) else .no) = _
      rw [if_pos (by simp; omega)]
      simp only [List.map_append, List.map_map]
      rfl
  obtain ⟨x', y', e⟩ := loop (List.range L) [] none none (fun a ha => List.mem_range.mp ha) (by simp; omega)
  refine pure_rt (xs := [.int (L : Int)]) (st' := [none]) ?_ st
  unfold b__law_all
  refine (seq_of (asg_nm (x := .ref 0) (st1 := [some (.lst false [])]) rfl (lt rfl))).trans ?_
  refine (seq_of ((for_of (range1_of (one_of (v_of rfl)) (by omega))).trans e)).trans ?_
  rfl
theorem eq_nil_of {env : EE} {st st1 : Sto} {r : RX} {ns : List Nat} (h : r env st = .ok (.p (.lst (ns.map fun k : Nat => .int (k : Int)))) st1) : r2 pEq r (rLst rNil) env st = .ok (.p (.bl ns.isEmpty)) st1 := by
  refine op_of h (lst_of nil_of rfl) ?_
  rw [show ∀ l : List PV, pEq (.lst l) (.lst []) = (pEqD (.lst l) (.lst [])).map .bl from fun _ => rfl, eq_data (dOk_lst (n := 0) ?_ (by decide)) (dOk_lst (n := 0) (by rw [PV.deps]) (by decide))]
  · show some (PV.bl (PV.eqv _ _)) = _
    congr 2
    rw [PV.eqv]
    cases ns <;> simp [PV.eqvs]
  · rw [deps_const (n := 0) (fun _ => by rw [PV.dep])]
    simp
theorem fldr_of {okc : Nat → Bool} {f : Str} {ra : RX} {env : EE} {st st1 : Sto} {n c : Nat} {fs : List Str} {us : List VV} {u : VV} (h : ra env st = .ok (.ref n) st1) (ho : st1[n]? = some (some (.ins c fs us))) (hc : okc c = true) (hu : lkV fs us f = some u) : rFld okc f ra env st = .ok u st1 := by
  unfold rFld
  rw [h]
  simp only [bind_ok', ho, hu, hc, if_true]
theorem gc_rt {n : Nat} {b : RS} {xs : List VV} {z : PV} {st st1 : Sto} (h : b (envOf n xs) st = .rt (.p z) st1) (hc : cutOk st.length st1 = true) : gcOf (fnM n b) xs st = .ok (.p z) (st1.take st.length) := by
  unfold gcOf fnM
  rw [h]
  show (if cutOk st.length st1 = true then _ else _) = _
  rw [if_pos hc]
theorem gc_nx {n : Nat} {b : RS} {xs : List VV} {e : EE} {st st1 : Sto} (h : b (envOf n xs) st = .nx e st1) (hc : cutOk st.length st1 = true) : gcOf (fnM n b) xs st = .ok (.p .non) (st1.take st.length) := by
  unfold gcOf fnM
  rw [h]
  show (if cutOk st.length st1 = true then _ else _) = _
  rw [if_pos hc]
theorem meth_of {c : Nat} {m : Str} {n : Nat} {F : MF} {ra : RX} {t : RA} {env : EE} {st st1 st2 st3 : Sto} {z w : VV} {xs : List VV} (h : ra env st = .ok z st1) (hi : insOf c m st1 z = true) (h2 : t env st1 = .ok xs st2) (hn : (z :: xs).length = n) (h3 : F (z :: xs) st2 = .ok w st3) : rMeth c m (rArity n F) ra t env st = .ok w st3 := by
  unfold rMeth
  rw [h]
  show (if insOf c m st1 z = true then _ else _) = _
  rw [if_pos hi, h2]
  show rArity n F (z :: xs) st2 = _
  unfold rArity
  rw [if_pos hn, h3]
theorem pre_of {k i : Nat} {s : RS} {env : EE} {st st1 : Sto} {x : VV} {z : PV} (h : env[i]? = some (some x)) (hf : frzV k st x = some (z, st1)) : sPre k i s env st = s (env.set i (some (.p z))) st1 := by
  unfold sPre
  rw [h]
  show (match frzV k st x with | some (z, st2) => _ | none => _) = _
  rw [hf]
theorem while_step {t : RT} {b : RS} {n : Nat} {e e' : EE} {st st1 st' : Sto} (h1 : t e st = .ok true st1) (h2 : b e st1 = .nx e' st') : whileGo t b (n + 1) e st = whileGo t b n e' st' := by
  rw [whileGo, h1]
  show (match b e st1 with | .nx e' st' => _ | .ct e' st' => _ | .bk e' st' => _ | r => _) = _
  rw [h2]
theorem while_end {t : RT} {b : RS} {n : Nat} {e : EE} {st st1 : Sto} (h1 : t e st = .ok false st1) : whileGo t b (n + 1) e st = .nx e st1 := by
  rw [whileGo, h1]
  rfl
theorem skip_of {ta : RT} {s s2 : RS} {env : EE} {st st1 : Sto} (h : ta env st = .ok false st1) : sSeq (sIf ta s sNil) s2 env st = s2 env st1 := seq_of (sif_false h)
theorem take_of {ta : RT} {s s' s2 : RS} {env : EE} {st st1 st2 : Sto} {x : VV} (h : ta env st = .ok true st1) (h2 : s env st1 = .rt x st2) : sSeq (sIf ta s s') s2 env st = .rt x st2 := seq_rt ((sif_true h).trans h2)
theorem then_of {s s2 : RS} {env e1 : EE} {st st1 : Sto} {r : SRes} (h : s env st = .nx e1 st1) (h2 : s2 e1 st1 = r) : sSeq s s2 env st = r := (seq_of h).trans h2
theorem pGt_nat (a b : Nat) : pGt (.int (a : Int)) (.int (b : Int)) = some (.bl (decide (b < a))) := by
  show some (PV.bl (decide ((b : Int) < (a : Int)))) = _
  congr 2
  exact decide_eq_decide.mpr (by omega)
theorem pLt_nat (a b : Nat) : pLt (.int (a : Int)) (.int (b : Int)) = some (.bl (decide (a < b))) := by
  show some (PV.bl (decide ((a : Int) < (b : Int)))) = _
  congr 2
  exact decide_eq_decide.mpr (by omega)
theorem int_bl (b : Bool) (st : Sto) : bInt [.p (.bl b)] st = .ok (.p (.int (b.toNat : Int))) st := by cases b <;> rfl
theorem eq_nat (a b : Nat) : pEq (.int (a : Int)) (.int (b : Int)) = some (.bl (decide (a = b))) := by
  rw [eqInt]
  congr 2
  exact decide_eq_decide.mpr (by omega)
inductive Pl : Nat → PV → Prop
  | int (n : Nat) (i : Int) : Pl (n + 1) (.int i)
  | bl (n : Nat) (b : Bool) : Pl (n + 1) (.bl b)
  | str (n : Nat) (z : Str) : Pl (n + 1) (.str z)
  | non (n : Nat) : Pl (n + 1) .non
  | tup (n : Nat) (xs : List PV) : (∀ x ∈ xs, Pl n x) → xs.length ≤ 100000 → Pl (n + 1) (.tup xs)
theorem eq_self_int (i : Int) : pEq (.int i) (.int i) = some (.bl true) := by rw [eqInt]; simp
theorem ne_self_int (i : Int) : pNe (.int i) (.int i) = some (.bl false) := by
  show some (PV.bl (!decide (i = i))) = _
  simp
theorem eq_self_str (i : Str) : pEq (.str i) (.str i) = some (.bl true) := by
  show some (PV.bl (decide (i = i))) = _
  simp
theorem eq_self_bl (i : Bool) : pEq (.bl i) (.bl i) = some (.bl true) := by cases i <;> rfl
theorem alike_ok : ∀ (n : Nat) (x : PV), Pl n x → ∀ st, m__law_alike n [.p x, .p x] st = .ok (.p (.bl true)) st
  | 0, x, h, st => by cases h
  | n + 1, .int i, h, st => by
    show liftP (pureOf (fnM 3 (b__law_alike (m__law_alike n)))) _ _ = _
    refine pure_rt (xs := [.int i, .int i]) (st' := []) ?_ st
    unfold b__law_alike
    exact (skip_of (tst_of (cb_of (two_of (v_of rfl) (tup_of (two_of c_of c_of) rfl)) rfl))).trans ((skip_of (or_of (a := false) (b := false) (tst_of (op_of (v_of rfl) c_of rfl)) fun _ => tst_of (cb_of (two_of (v_of rfl) c_of) rfl))).trans (ret_of (andV_of (a := true) (b := true) (cb_of (two_of (v_of rfl) c_of) rfl) fun _ => andV_of (a := true) (b := true) (op_of (cb_of (two_of (v_of rfl) c_of) rfl) (cb_of (two_of (v_of rfl) c_of) rfl) rfl) fun _ => op_of (v_of rfl) (v_of rfl) (eq_self_int i))))
  | n + 1, .bl i, h, st => by
    show liftP (pureOf (fnM 3 (b__law_alike (m__law_alike n)))) _ _ = _
    refine pure_rt (xs := [.bl i, .bl i]) (st' := []) ?_ st
    unfold b__law_alike
    exact (skip_of (tst_of (cb_of (two_of (v_of rfl) (tup_of (two_of c_of c_of) rfl)) rfl))).trans ((skip_of (or_of (a := false) (b := false) (tst_of (op_of (v_of rfl) c_of rfl)) fun _ => tst_of (cb_of (two_of (v_of rfl) c_of) rfl))).trans (ret_of (andV_of (a := true) (b := true) (cb_of (two_of (v_of rfl) c_of) rfl) fun _ => andV_of (a := true) (b := true) (op_of (cb_of (two_of (v_of rfl) c_of) rfl) (cb_of (two_of (v_of rfl) c_of) rfl) rfl) fun _ => op_of (v_of rfl) (v_of rfl) (eq_self_bl i))))
  | n + 1, .str i, h, st => by
    show liftP (pureOf (fnM 3 (b__law_alike (m__law_alike n)))) _ _ = _
    refine pure_rt (xs := [.str i, .str i]) (st' := []) ?_ st
    unfold b__law_alike
    exact (skip_of (tst_of (cb_of (two_of (v_of rfl) (tup_of (two_of c_of c_of) rfl)) rfl))).trans (take_of (or_of (a := false) (b := true) (tst_of (op_of (v_of rfl) c_of rfl)) fun _ => tst_of (cb_of (two_of (v_of rfl) c_of) rfl)) (ret_of (andV_of (a := true) (b := true) (op_of (v_of rfl) (v_of rfl) (eq_self_str i)) fun _ => op_of (cb_of (two_of (v_of rfl) c_of) rfl) (cb_of (two_of (v_of rfl) c_of) rfl) rfl)))
  | n + 1, .non, h, st => by
    show liftP (pureOf (fnM 3 (b__law_alike (m__law_alike n)))) _ _ = _
    refine pure_rt (xs := [.non, .non]) (st' := []) ?_ st
    unfold b__law_alike
    exact (skip_of (tst_of (cb_of (two_of (v_of rfl) (tup_of (two_of c_of c_of) rfl)) rfl))).trans (take_of (or_of (a := true) (b := true) (tst_of (op_of (v_of rfl) c_of rfl)) fun h => by cases h) (ret_of (andV_of (a := true) (b := true) (op_of (v_of rfl) (v_of rfl) rfl) fun _ => op_of (cb_of (two_of (v_of rfl) c_of) rfl) (cb_of (two_of (v_of rfl) c_of) rfl) rfl)))
  | n + 1, .tup xs, h, st => by
    obtain ⟨hx, hl⟩ : (∀ x ∈ xs, Pl n x) ∧ xs.length ≤ 100000 := by cases h with | tup _ _ a b => exact ⟨a, b⟩
    show liftP (pureOf (fnM 3 (b__law_alike (m__law_alike n)))) _ _ = _
    refine pure_rt (xs := [.tup xs, .tup xs]) (st' := []) ?_ st
    unfold b__law_alike
    refine take_of (tst_of (cb_of (two_of (v_of rfl) (tup_of (two_of c_of c_of) rfl)) rfl)) ((skip_of (or_of (a := false) (b := false) (not_of (b := true) (tst_of (cb_of (two_of (v_of rfl) (tup_of (two_of c_of c_of) rfl)) rfl))) fun _ => tst_of (op_of (cb_of (two_of (v_of rfl) c_of) rfl) (cb_of (two_of (v_of rfl) c_of) rfl) rfl))).trans ((skip_of (tst_of (op_of (cb_of (one_of (v_of rfl)) (len_seq rfl)) (cb_of (one_of (v_of rfl)) (len_seq rfl)) (ne_self_int _)))).trans (ret_of (eq_nil_of (ns := []) ?_))))
    have hlc := lc_of (ri := rRange1 (rCons (rCB bLen (rCons (rVar 1) rNil)) rNil)) (env := [some (.p (.tup xs)), some (.p (.tup xs)), none]) (i := 2) (st := []) (t := rNot (rTst (rCall (rArity 2 (m__law_alike n)) (rCons (r2s pIx (rVar 0) (rVar 2)) (rCons (r2s pIx (rVar 1) (rVar 2)) rNil))))) (r := rVar 2) (List.range xs.length) (fun k : Nat => .int (k : Int)) (fun _ => false) (fun k : Nat => .int (k : Int)) (range1_of (n := xs.length) (one_of (cb_of (one_of (v_of rfl)) (len_seq (ys := xs) rfl))) hl) (lt rfl) (fun k hk => ⟨?_, fun h => by cases h⟩) (by simp; omega)
    · rw [show ((List.range xs.length).filter fun _ => false) = [] by simp] at hlc
      exact hlc
    · have hk := List.mem_range.mp hk
      have e : xs[k]? = some xs[k] := List.getElem?_eq_getElem hk
      exact not_of (b := true) (tst_of (call_of (two_of (ix_p (v_of rfl) (v_of rfl) (ix_tup_nat e)) (ix_p (v_of rfl) (v_of rfl) (ix_tup_nat e))) (alike_ok n _ (hx _ (List.getElem_mem hk)) _)))
  | n + 1, .lst xs, h, st => by cases h
  | n + 1, .lsf xs, h, st => by cases h
  | n + 1, .ty z, h, st => by cases h
  | n + 1, .ins a b c, h, st => by cases h
  | n + 1, .dct a b c, h, st => by cases h
theorem Pl.sp (n : Nat) (p : Nat × Nat) : Pl (n + 2) (eSp p) := .tup _ _ (fun x hx => by
  rcases List.mem_cons.mp hx with rfl | hx
  · exact .int _ _
  · rw [List.mem_singleton] at hx; subst hx; exact .int _ _) (by simp)
def rowT (ns : List Int) (a b c : Int) (t : Sto) : Sto := some (.lst false [.lsf (ns.map .int), .int a, .int b, .int c]) :: t
abbrev rowO (ns : List Int) (a b c : Int) : Sto := rowT ns a b c []
theorem pow18 : pPow (.int 10) (.int 18) = some (.int 1000000000000000000) := by kernel_rfl
def Far (t : Sto) : Prop := ∀ n, t.all (obOk n) = true
theorem far_nil : Far [] := fun _ => rfl
theorem Far.none {t : Sto} (h : Far t) : Far (t ++ [none]) := fun n => by rw [List.all_append, h n]; rfl
theorem Far.lst {t : Sto} (h : Far t) (b : Bool) (ys : List PV) : Far (t ++ [some (.lst b ys)]) := fun n => by rw [List.all_append, h n]; rfl
theorem cut_row {t : Sto} (h : Far t) (ns : List Int) (a b c : Int) (m : Nat) (x : Sto) (hm : m = t.length + 1) : cutOk m (rowT ns a b c (t ++ x)) = true := by
  subst hm
  unfold cutOk rowT
  rw [List.take_succ_cons, List.take_left, List.all_cons, h _]
  rfl
theorem take_row {t : Sto} (ns : List Int) (a b c : Int) (m : Nat) (x : Sto) (hm : m = t.length + 1) : (rowT ns a b c (t ++ x)).take m = rowT ns a b c t := by
  subst hm
  unfold rowT
  rw [List.take_succ_cons, List.take_left]
theorem taken {t : Sto} (ht : Far t) (ns : List Int) (a b c n : Int) (ha : 0 ≤ a) (hn : 0 < n) (hn2 : n < 1073741824) : ∃ i a' b' c', 0 ≤ i ∧ i < n ∧ 0 ≤ a' ∧ m__law_taken [.ref 0, .p (.int n)] (rowT ns a b c t) = .ok (.p (.int i)) (rowT ns a' b' c' t) := by
  have m0 : ∀ z : Int, 0 ≤ z % n := fun z => Int.emod_nonneg _ (by omega)
  have m1 : ∀ z : Int, z % n < n := fun z => Int.emod_lt_of_pos _ hn
  suffices q : ∃ i a' b' c', 0 ≤ i ∧ i < n ∧ 0 ≤ a' ∧ fnM 4 b__law_taken [.ref 0, .p (.int n)] (rowT ns a b c t) = .ok (.p (.int i)) (rowT ns a' b' c' t) by
    obtain ⟨i, a', b', c', h1, h2, h3, h4⟩ := q
    refine ⟨i, a', b', c', h1, h2, h3, ?_⟩
    unfold m__law_taken gcOf
    rw [h4]
    have e1 := cut_row ht ns a' b' c' (rowT ns a b c t).length [] rfl
    have e2 := take_row (t := t) ns a' b' c' (rowT ns a b c t).length [] rfl
    rw [List.append_nil] at e1 e2
    show (if cutOk (rowT ns a b c t).length (rowT ns a' b' c' t) = true then _ else _) = _
    rw [if_pos e1, e2]
  by_cases h1 : 0 < c
  · refine ⟨c % n, a, b, c / n, m0 _, m1 _, ha, ?_⟩
    unfold fnM b__law_taken rowT
    simp [sSeq, sIf, sAsg, sPut, sRet, rTst, r2, r2s, rVar, rC, rCB, rCons, rNil, pIx, pI, pI0, pAdd, pMul, bInt, bLen, seqOf, atI, ixN, putIx, Res.bind, Res.toS, Res.nox, Ev.envOf, Tg.set, Tg.run, sNil, h1, hn, hn2]
  · by_cases h2 : (ns.length : Int) < a + 1
    · refine ⟨(b * 48271 + 11) % 2147483647 / 7 % n, a + 1, (b * 48271 + 11) % 2147483647, c, m0 _, m1 _, by omega, ?_⟩
      unfold fnM b__law_taken rowT
      simp [sSeq, sIf, sAsg, sPut, sRet, rTst, r2, r2s, rVar, rC, rCB, rCons, rNil, pIx, pI, pI0, pAdd, pMul, bInt, bLen, seqOf, atI, ixN, putIx, Res.bind, Res.toS, Res.nox, Ev.envOf, Tg.set, Tg.run, sNil, h1, h2, hn, hn2]
    · obtain ⟨k, hk⟩ : ∃ k : Nat, a = k := ⟨a.toNat, by omega⟩
      subst hk
      have hk : k < ns.length := by omega
      by_cases h3 : (1000000000000000000 : Int) ≤ ns[k]
      · refine ⟨ns[k] % n, (k : Int) + 1, (b * 48271 + ns[k] + 11) % 2147483647, ns[k] / n, m0 _, m1 _, by omega, ?_⟩
        unfold fnM b__law_taken rowT
        simp [sSeq, sIf, sAsg, sPut, sRet, rTst, r2, r2s, rVar, rC, rCB, rCons, rNil, pIx, pI, pI0, pAdd, pMul, bInt, bLen, seqOf, atI, ixN, putIx, Res.bind, Res.toS, Res.nox, Ev.envOf, Tg.set, Tg.run, sNil, h1, h2, h3, hk, hn, hn2]
      · refine ⟨(ns[k] % 1000003 * 31 + (b * 48271 + ns[k] + 11) % 2147483647 / 11) % n, (k : Int) + 1, (b * 48271 + ns[k] + 11) % 2147483647, c, m0 _, m1 _, by omega, ?_⟩
        unfold fnM b__law_taken rowT
        simp [sSeq, sIf, sAsg, sPut, sRet, rTst, r2, r2s, rVar, rC, rCB, rCons, rNil, pIx, pI, pI0, pAdd, pMul, bInt, bLen, seqOf, atI, ixN, putIx, Res.bind, Res.toS, Res.nox, Ev.envOf, Tg.set, Tg.run, sNil, h1, h2, h3, hk, hn, hn2]
theorem pick {t : Sto} (ht : Far t) (xs : List PV) (ns : List Int) (a b c : Int) (ha : 0 ≤ a) (hn : 0 < xs.length) (hn2 : xs.length < 1073741824) : ∃ (k : Nat) (hk : k < xs.length) (a' b' c' : Int), 0 ≤ a' ∧ m__law_pick [.ref 0, .p (.lst xs)] (rowT ns a b c t) = .ok (.p xs[k]) (rowT ns a' b' c' t) := by
  obtain ⟨i, a', b', c', h1, h2, h3, h4⟩ := taken ht ns a b c xs.length ha (by omega) (by omega)
  obtain ⟨k, rfl⟩ : ∃ k : Nat, i = k := ⟨i.toNat, by omega⟩
  have hk : k < xs.length := by omega
  refine ⟨k, hk, a', b', c', h3, ?_⟩
  have e1 := cut_row ht ns a' b' c' (rowT ns a b c t).length [] rfl
  have e2 := take_row (t := t) ns a' b' c' (rowT ns a b c t).length [] rfl
  rw [List.append_nil] at e1 e2
  have q : b__law_pick (envOf 2 [.ref 0, .p (.lst xs)]) (rowT ns a b c t) = .rt (.p xs[k]) (rowT ns a' b' c' t) := by
    unfold b__law_pick
    exact ret_of (ix_p (v_of rfl) (call_of (two_of (v_of rfl) (cb_of (one_of (v_of rfl)) (len_seq (ys := xs) rfl))) h4) (ix_lst_nat (List.getElem?_eq_getElem hk)))
  exact (gc_rt q e1).trans (by rw [e2])
theorem frz_new {k : Nat} {r : RX} {env : EE} {st : Sto} {nk : Bool} {ks us : List PV} (h : r env st = .ok (.ref st.length) (st ++ [some (.dct nk false ks us)])) : rFrz (k + 1) r env st = .ok (.p (.dct nk ks us)) (st ++ [none]) := by
  unfold rFrz
  rw [h]
  show (match frzV (k + 1) (st ++ [some (Ob.dct nk false ks us)]) (.ref st.length) with
    | some (z, st2) => (Res.ok (VV.p z) st2 : Res VV)
    | none => .no) = _
  have e : frzV (k + 1) (st ++ [some (Ob.dct nk false ks us)]) (.ref st.length) = some (.dct nk ks us, st ++ [none]) := by
    rw [frzV]
    rw [List.getElem?_append_right (Nat.le_refl _), Nat.sub_self]
    show some (PV.dct nk ks us, (st ++ [some (Ob.dct nk false ks us)]).set st.length none) = _
    rw [List.set_append_right _ _ (Nat.le_refl _), Nat.sub_self]
    rfl
  rw [e]
theorem lcGo_run {i : Nat} {r : RX} {env : EE} (I : Sto → Prop) (P : PV → PV → Prop) (hi : i < env.length) : ∀ (xs : List PV) (acc : List PV) (st : Sto), I st → acc.length + xs.length ≤ 16777216 →
    (∀ x ∈ xs, ∀ st, I st → ∃ z st', r (env.set i (some (.p x))) st = .ok (.p z) st' ∧ I st' ∧ P x z) →
    ∃ zs st', lcGo (.nm i) rYes r xs acc env st = .ok (acc ++ zs) st' ∧ I st' ∧ zs.length = xs.length ∧ ∀ z ∈ zs, ∃ x ∈ xs, P x z
  | [], acc, st, h, _, _ => ⟨[], st, by rw [List.append_nil]; rfl, h, rfl, fun z hz => by cases hz⟩
  | x :: xs, acc, st, h, hl, hr => by
    rw [List.length_cons] at hl
    obtain ⟨z, st1, e1, h1, p1⟩ := hr x List.mem_cons_self st h
    obtain ⟨zs, st2, e2, h2, l2, p2⟩ := lcGo_run I P hi xs (acc ++ [z]) st1 h1 (by rw [List.length_append]; simp; omega) fun y hy => hr y (List.mem_cons_of_mem _ hy)
    refine ⟨z :: zs, st2, ?_, h2, by simp [l2], fun w hw => ?_⟩
    · have hg : (Tg.nm i).set (.p x) env = some (env.set i (some (.p x))) := if_pos hi
      rw [lcGo, hg]
      show (r (env.set i (some (.p x))) st).nox.bind _ = _
      rw [e1]
      show (if acc.length < 16777216 then lcGo (.nm i) rYes r xs (acc ++ [z]) env st1 else .no) = _
      rw [if_pos (by omega), e2, List.append_assoc]
      rfl
    · rcases List.mem_cons.mp hw with rfl | hw
      · exact ⟨x, List.mem_cons_self, p1⟩
      · obtain ⟨y, hy, p⟩ := p2 w hw
        exact ⟨y, List.mem_cons_of_mem _ hy, p⟩
theorem lc_run {i : Nat} {ri : RI} {r : RX} {env : EE} {st st1 : Sto} (I : Sto → Prop) (P : PV → PV → Prop) {xs : List PV} (hr : ri env st = .ok xs st1) (hi : i < (wipeE env [i]).length) (h : I st1) (hl : xs.length ≤ 16777216)
    (hb : ∀ x ∈ xs, ∀ st, I st → ∃ z st', r ((wipeE env [i]).set i (some (.p x))) st = .ok (.p z) st' ∧ I st' ∧ P x z) :
    ∃ zs st', rLc [i] ri (.nm i) rYes r env st = .ok (.p (.lst zs)) st' ∧ I st' ∧ zs.length = xs.length ∧ ∀ z ∈ zs, ∃ x ∈ xs, P x z := by
  obtain ⟨zs, st', e, h2, h3, h4⟩ := lcGo_run I P hi xs [] st1 h (by simp; omega) hb
  refine ⟨zs, st', ?_, h2, h3, h4⟩
  unfold rLc lcR
  rw [hr]
  show Res.bind (lcGo (.nm i) rYes r xs [] (wipeE env [i]) st1) _ = _
  rw [e]
  rfl
theorem row_int (i : Int) (n : PV) (st : Sto) : m_is_row [.p (.int i), .p n] st = .ok (.p (.bl false)) st := pure_rt (xs := [.int i, n]) (st' := []) rfl st
theorem row_non (n : PV) (st : Sto) : m_is_row [.p .non, .p n] st = .ok (.p (.bl false)) st := pure_rt (xs := [.non, n]) (st' := []) rfl st
theorem row_str (z : Str) (n : PV) (st : Sto) : m_is_row [.p (.str z), .p n] st = .ok (.p (.bl false)) st := pure_rt (xs := [.str z, n]) (st' := []) rfl st
theorem is_stretch_row {L S : Nat} {v : PV} (hr : ∀ st, m_is_row [.p v, .p (.int 2)] st = .ok (.p (.bl false)) st) (st : Sto) : m_is_stretch [.p (eLine L S), .p v] st = .ok (.p (.bl false)) st := by
  refine pure_rt (xs := [eLine L S, v]) (st' := []) ?_ st
  unfold b_is_stretch
  exact take_of (or_of (a := true) (b := true) (not_of (b := false) (tst_of (call_of (two_of (v_of rfl) c_of) (hr _)))) fun h => by cases h) (ret_of c_of)
theorem is_row_tup (xs : List PV) (n : Nat) (st : Sto) : m_is_row [.p (.tup xs), .p (.int (n : Int))] st = .ok (.p (.bl (decide (xs.length = n)))) st := by
  refine pure_rt (xs := [.tup xs, .int (n : Int)]) (st' := []) ?_ st
  unfold b_is_row
  refine ret_of ((andV_of (a := true) (b := decide (xs.length = n)) (cb_of (two_of (v_of rfl) c_of) rfl) fun _ => op_of (cb_of (one_of (v_of rfl)) (len_seq rfl)) (v_of rfl) (eq_nat _ _)).trans ?_)
  rw [Bool.true_and]
theorem is_within_int (i a b : Int) (st : Sto) : m_is_within [.p (.int i), .p (.int a), .p (.int b)] st = .ok (.p (.bl (decide (a ≤ i) && decide (i ≤ b)))) st := by
  refine pure_rt (xs := [.int i, .int a, .int b]) (st' := []) ?_ st
  unfold b_is_within
  have hw : ∀ st, m_is_whole [.p (.int i)] st = .ok (.p (.bl true)) st := fun st => pure_rt (xs := [.int i]) (st' := []) rfl st
  refine ret_of ((andV_of (a := true) (b := decide (a ≤ i) && decide (i ≤ b)) (call_of (one_of (v_of rfl)) (hw _)) fun _ => ch_of (v_of rfl) (v_of rfl) rfl fun _ => ⟨v_of rfl, rfl⟩).trans ?_)
  rw [Bool.true_and]
theorem is_within_tup (xs : List PV) (a b : PV) (st : Sto) : m_is_within [.p (.tup xs), .p a, .p b] st = .ok (.p (.bl false)) st := by
  refine pure_rt (xs := [.tup xs, a, b]) (st' := []) ?_ st
  unfold b_is_within
  have hw : ∀ st, m_is_whole [.p (.tup xs)] st = .ok (.p (.bl false)) st := fun st => pure_rt (xs := [.tup xs]) (st' := []) rfl st
  exact ret_of (andV_of (a := false) (b := false) (call_of (one_of (v_of rfl)) (hw _)) fun h => by cases h)
theorem is_stretch_sp {L S : Nat} {p : Nat × Nat} (h1 : p.1 < p.2) (h2 : p.2 ≤ L) (st : Sto) : m_is_stretch [.p (eLine L S), .p (eSp p)] st = .ok (.p (.bl true)) st := by
  refine pure_rt (xs := [eLine L S, eSp p]) (st' := []) ?_ st
  unfold b_is_stretch
  have hr : ∀ st, m_is_row [.p (eSp p), .p (.int 2)] st = .ok (.p (.bl true)) st := fun st => is_row_tup [.int (p.1 : Int), .int (p.2 : Int)] 2 st
  have w1 : ∀ st, m_is_within [.p (.int (p.1 : Int)), .p (.int 0), .p (.int ((L : Int) - 1))] st = .ok (.p (.bl true)) st := fun st => by
    rw [is_within_int, decide_eq_true (by omega), decide_eq_true (by omega)]
    rfl
  have w2 : ∀ st, m_is_within [.p (.int (p.2 : Int)), .p (.int ((p.1 : Int) + 1)), .p (.int (L : Int))] st = .ok (.p (.bl true)) st := fun st => by
    rw [is_within_int, decide_eq_true (by omega), decide_eq_true (by omega)]
    rfl
  refine (skip_of (or_of (a := false) (b := false) (not_of (b := true) (tst_of (call_of (two_of (v_of rfl) c_of) (hr _)))) fun _ => not_of (b := true) (tst_of (call_of (three_of (ix_p (v_of rfl) c_of (ix_tup_nat (k := 0) rfl)) c_of (op_of (fld_legs (v_of rfl)) c_of rfl)) (w1 _))))).trans ?_
  exact ret_of (call_of (three_of (ix_p (v_of rfl) c_of (ix_tup_nat (k := 1) rfl)) (op_of (ix_p (v_of rfl) c_of (ix_tup_nat (k := 0) rfl)) c_of rfl) (fld_legs (v_of rfl))) (w2 _))
theorem fset_of {okc : Nat → Bool} {f : Str} {ra rv : RX} {env : EE} {st st1 st2 st3 : Sto} {y z : VV} (h1 : rv env st = .ok y st1) (h2 : ra env st1 = .ok z st2) (h3 : putFld okc f z y st2 = some st3) : sFldR okc f ra rv env st = .nx env st3 := by
  unfold sFldR
  rw [toS_of h1]
  show Res.toS (ra env st1) _ _ = _
  rw [toS_of h2]
  show (match putFld okc f z y st2 with | some st3 => SRes.nx env st3 | none => .no) = _
  rw [h3]
theorem alike_bl (a : Bool) (st : Sto) : m__law_alike 6 [.p (.bl a), .p (.bl a)] st = .ok (.p (.bl true)) st := by
  show liftP (pureOf (fnM 3 (b__law_alike (m__law_alike 5)))) _ _ = _
  refine pure_rt (xs := [.bl a, .bl a]) (st' := []) ?_ st
  cases a <;> rfl
theorem get_new (st : Sto) (o : Option Ob) : (st ++ [o])[st.length]? = some o := by simp
theorem set_new (st : Sto) (o o' : Option Ob) : (st ++ [o]).set st.length o' = st ++ [o'] := by simp
theorem putFld_at {okc : Nat → Bool} {f : Str} {y : VV} {S0 S1 : Sto} {n c : Nat} {fs : List Str} {us : List VV} (hc : okc c = true) (hl : fs.length < 1000) (h : S0[n]? = some (some (.ins c fs us))) (hs : S0.set n (some (.ins c (putV fs us f y).1 (putV fs us f y).2)) = S1) : putFld okc f (.ref n) y S0 = some S1 := by
  unfold putFld
  dsimp only
  rw [h]
  show (if okc c = true ∧ fs.length < 1000 then some _ else none) = _
  rw [if_pos ⟨hc, hl⟩, hs]
theorem putFld_new {okc : Nat → Bool} {f : Str} {y : VV} {st : Sto} {c : Nat} {fs : List Str} {us : List VV} (hc : okc c = true) (hl : fs.length < 1000) : putFld okc f (.ref st.length) y (st ++ [some (.ins c fs us)]) = some (st ++ [some (.ins c (putV fs us f y).1 (putV fs us f y).2)]) := putFld_at hc hl (get_new _ _) (set_new _ _ _)
theorem line_new {L S : Nat} (h : 0 < L) (hL : L ≤ 5) (h3 : 0 < S) (h4 : S ≤ 4) {env : EE} (st : Sto) {a b : RX} (ha : ∀ st, a env st = .ok (.p (.int (L : Int))) st) (hb : ∀ st, b env st = .ok (.p (.int (S : Int))) st) : rFrz 8 (rMake c_Line (rArity 3 (m_Line___init__)) (rCons a (rCons b rNil))) env st = .ok (.p (eLine L S)) (st ++ [none]) := by
  have w1 : ∀ st, m_is_within [.p (.int (L : Int)), .p (.int 1), .p (.int 5)] st = .ok (.p (.bl true)) st := fun st => by
    rw [is_within_int, decide_eq_true (by omega), decide_eq_true (by omega)]
    rfl
  have w2 : ∀ st, m_is_within [.p (.int (S : Int)), .p (.int 1), .p (.int 4)] st = .ok (.p (.bl true)) st := fun st => by
    rw [is_within_int, decide_eq_true (by omega), decide_eq_true (by omega)]
    rfl
  have hbody : b_Line___init__ (envOf 3 [.ref st.length, .p (.int (L : Int)), .p (.int (S : Int))]) (st ++ [some (.ins c_Line [] [])]) = .nx [some (.ref st.length), some (.p (.int (L : Int))), some (.p (.int (S : Int)))] (st ++ [some (.ins c_Line ["legs", "seats"] [.p (.int (L : Int)), .p (.int (S : Int))])]) := by
    unfold b_Line___init__
    refine (skip_of (not_of (b := true) (tst_of (call_of (three_of (v_of rfl) c_of c_of) (w1 _))))).trans ?_
    refine (skip_of (not_of (b := true) (tst_of (call_of (three_of (v_of rfl) c_of c_of) (w2 _))))).trans ?_
    exact then_of (e1 := [some (.ref st.length), some (.p (.int (L : Int))), some (.p (.int (S : Int)))]) (st1 := st ++ [some (.ins c_Line ["legs"] [.p (.int (L : Int))])]) (fset_of (v_of rfl) (v_of rfl) (putFld_new rfl (by decide))) (fset_of (v_of rfl) (v_of rfl) (putFld_new rfl (by decide)))
  have hm : rMake c_Line (rArity 3 (m_Line___init__)) (rCons a (rCons b rNil)) env st = .ok (.ref st.length) (st ++ [some (.ins c_Line ["legs", "seats"] [.p (.int (L : Int)), .p (.int (S : Int))])]) := by
    unfold rMake
    rw [two_of (ha st) (hb st)]
    show (m_Line___init__ [.ref st.length, .p (.int (L : Int)), .p (.int (S : Int))] (st ++ [some (.ins c_Line [] [])])).bind _ = _
    unfold m_Line___init__ fnM
    rw [hbody]
    rfl
  unfold rFrz
  rw [hm]
  show (match frzV 8 (st ++ [some (Ob.ins c_Line ["legs", "seats"] [.p (.int (L : Int)), .p (.int (S : Int))])]) (.ref st.length) with
    | some (z, st2) => (Res.ok (VV.p z) st2 : Res VV)
    | none => .no) = _
  have e : frzV 8 (st ++ [some (Ob.ins c_Line ["legs", "seats"] [.p (.int (L : Int)), .p (.int (S : Int))])]) (.ref st.length) = some (eLine L S, st ++ [none]) := by
    rw [frzV, get_new]
    show (frzVs 7 ((st ++ [some (Ob.ins c_Line ["legs", "seats"] [.p (.int (L : Int)), .p (.int (S : Int))])]).set st.length none) [.p (.int (L : Int)), .p (.int (S : Int))]).map _ = _
    rw [set_new]
    rfl
  rw [e]
theorem add_lst {xs ys : List PV} (h : xs.length + ys.length ≤ 16777216) : pAdd (.lst xs) (.lst ys) = some (.lst (xs ++ ys)) := by
  show (if xs.length + ys.length ≤ sizeLine then some (PV.lst (xs ++ ys)) else none) = _
  rw [if_pos (by rw [sizeLine_eq]; exact h)]
theorem in_lst {n : Bool} {st : Sto} {x : PV} {xs : List PV} {b : Bool} (h : pInL x xs = some b) : pIn n st (.p x) (.p (.lst xs)) = some (.bl (b != n)) := by
  show (pInP x (.lst xs)).map _ = _
  show ((pInL x xs).map _ : Option PV) = _
  rw [h]
  rfl
abbrev Sp2 := Nat × Nat
def hasLeg (l : Nat) (p : Sp2) : Bool := decide (p.1 ≤ l) && decide (l < p.2)
def meet (p q : Sp2) : Prop := p.1 < q.2 ∧ q.1 < p.2
theorem getD_set_eq {α : Type} {xs : List α} {i : Nat} {x d : α} (h : i < xs.length) : (xs.set i x).getD i d = x := by
  rw [List.getD_eq_getElem?_getD, List.getElem?_set_self h]; rfl
theorem getD_set_ne {α : Type} {xs : List α} {i j : Nat} {x d : α} (h : i ≠ j) : (xs.set i x).getD j d = xs.getD j d := by
  rw [List.getD_eq_getElem?_getD, List.getElem?_set_ne h, List.getD_eq_getElem?_getD]
def eAsk (asks : List Sp2) : PV := .tup (asks.map eSp)
def eN (k : Nat) : PV := .int (k : Int)
def eNs (ns : List Nat) : PV := .tup (ns.map eN)
theorem pLe_nat (a b : Nat) : pLe (.int (a : Int)) (.int (b : Int)) = some (.bl (decide (a ≤ b))) := by
  show some (PV.bl (decide ((a : Int) ≤ (b : Int)))) = _
  congr 2
  exact decide_eq_decide.mpr Int.ofNat_le
theorem pNe_nat (a b : Nat) : pNe (.int (a : Int)) (.int (b : Int)) = some (.bl (!decide (a = b))) := by
  show some (PV.bl (!decide ((a : Int) = (b : Int)))) = _
  congr 3
  exact decide_eq_decide.mpr Int.ofNat_inj
/-! ### asked stretches are required -/
abbrev jR (L S : Nat) (z : PV) : PV → PV → Option Bool := jOf (rCall (rArity 2 (m_is_stretch)) (rCons (rVar 0) (rCons (rVar 4) rNil))) [some (.p (eLine L S)), some (.p z), none, none]
section
variable {L S : Nat}
theorem jR_of {z x a : PV} {b : Bool} (h : ∀ st, m_is_stretch [.p (eLine L S), .p x] st = .ok (.p (.bl b)) st) : jR L S z x a = some b := by
  show jOf _ _ x a = _
  unfold jOf
  rw [call_of (two_of (v_of rfl) (v_of rfl)) (h [])]
theorem first_good {j : PV → PV → Option Bool} {all : List PV} : ∀ (ys r : List PV) (k : Nat), (∀ y ∈ ys, ∀ a, j y a = some true) → firstGo j all (ys ++ r) k = firstGo j all r (k + ys.length)
  | [], r, k, _ => rfl
  | y :: ys, r, k, h => by
    rw [List.cons_append, firstGo, h y List.mem_cons_self]
    show firstGo j all (ys ++ r) (k + 1) = _
    rw [first_good ys r (k + 1) fun z hz => h z (List.mem_cons_of_mem _ hz), List.length_cons]
    congr 1
    omega
theorem firstW_tup {j : PV → PV → Option Bool} {xs : List PV} : firstW isT j (.tup xs) 0 10 = if xs.length ≤ 10 then firstGo j xs xs 0 else some (.int (-1)) := by
  have e : firstW isT j (.tup xs) 0 10 = if decide ((0 : Int) ≤ (xs.length : Int)) && decide ((xs.length : Int) ≤ 10) then firstGo j xs xs 0 else some (.int (-1)) := rfl
  rw [e, decide_eq_true (by omega : (0 : Int) ≤ (xs.length : Int)), Bool.true_and]
  by_cases h : xs.length ≤ 10
  · rw [if_pos h, decide_eq_true (by omega), if_pos rfl]
  · rw [if_neg h, decide_eq_false (by omega), if_neg (by decide)]
abbrev rqT : RS := (sIf (rTst (r2 (pIs true) (rVar 3) (rC .non))) (sRaise 3 ["place"] (rCons (rCall (rArity 1 (m_place_told)) (rCons (rVar 3) rNil)) rNil)) sNil)
theorem rq_of {z v : PV} (h : firstW isT (jR L S z) z 0 10 = some v) : b_require_asked (envOf 4 ([eLine L S, z].map VV.p)) [] = rqT [some (.p (eLine L S)), some (.p z), none, some (.p v)] [] := by
  unfold b_require_asked
  refine seq_of ?_
  show (match firstW isT (jR L S z) z 0 10 with
    | some v => _
    | none => _) = _
  rw [h]
  rfl
abbrev bAsked (v : PV) : List PV := [.ins c_BadAsked ["place"] [v]]
theorem told_neg (st : Sto) : m_place_told [.p (.int (-1))] st = .ok (.p .non) st := pure_rt (xs := [.int (-1)]) (st' := []) rfl st
theorem told_nat (k : Nat) (st : Sto) : m_place_told [.p (.int (k : Int))] st = .ok (.p (.int (k : Int))) st := by
  refine pure_rt (xs := [.int (k : Int)]) (st' := []) ?_ st
  unfold b_place_told
  refine ret_of (if_of_false (tst_of (op_of (v_of rfl) (un_of c_of rfl) ?_)) (v_of rfl))
  rw [eqInt, decide_eq_false (by omega)]
theorem rq_ok {asks : List Sp2} (hw : ∀ q ∈ asks, q.1 < q.2 ∧ q.2 ≤ L) (h10 : asks.length ≤ 10) (st : Sto) : m_require_asked [.p (eLine L S), .p (eAsk asks)] st = .ok (.p .non) st := by
  refine pure_nx (xs := [eLine L S, eAsk asks]) (e' := [some (.p (eLine L S)), some (.p (eAsk asks)), none, some (.p .non)]) (st' := []) ?_ st
  rw [rq_of (v := .non)]
  · exact sif_false (tst_of (op_of (v_of rfl) c_of rfl))
  · show firstW isT _ (.tup (asks.map eSp)) 0 10 = _
    rw [firstW_tup, if_pos (by simpa using h10)]
    have := first_good (j := jR L S (eAsk asks)) (all := asks.map eSp) (asks.map eSp) [] 0 fun y hy a => by
      obtain ⟨p, hp, rfl⟩ := List.mem_map.mp hy
      exact jR_of fun st => is_stretch_sp (hw p hp).1 (hw p hp).2 st
    rw [List.append_nil] at this
    exact this
theorem rq_bad {ys zs : List PV} {b : PV} (hg : ∀ y ∈ ys, ∀ st, m_is_stretch [.p (eLine L S), .p y] st = .ok (.p (.bl true)) st) (hb : ∀ st, m_is_stretch [.p (eLine L S), .p b] st = .ok (.p (.bl false)) st) (hl : ys.length + 1 + zs.length ≤ 10) (st : Sto) :
    m_require_asked [.p (eLine L S), .p (.tup (ys ++ b :: zs))] st = .ex c_BadAsked (bAsked (.int (ys.length : Int))) st := by
  refine pure_ex (xs := [eLine L S, .tup (ys ++ b :: zs)]) (e' := [some (.p (eLine L S)), some (.p (.tup (ys ++ b :: zs))), none, some (.p (.int (ys.length : Int)))]) (st' := []) ?_ st
  rw [rq_of (v := .int (ys.length : Int))]
  · exact sif_ex (tst_of (op_of (v_of rfl) c_of rfl)) (raise_of (ys := [.int (ys.length : Int)]) (one_of (call_of (one_of (v_of rfl)) (told_nat _ _))) rfl rfl)
  · rw [firstW_tup, if_pos (by simp; omega), first_good _ _ _ fun y hy a => jR_of (hg y hy), firstGo, jR_of hb, Nat.zero_add]
theorem rq_none {v : PV} (h : firstW isT (jR L S v) v 0 10 = some (.int (-1))) (st : Sto) : m_require_asked [.p (eLine L S), .p v] st = .ex c_BadAsked (bAsked .non) st := by
  refine pure_ex (xs := [eLine L S, v]) (e' := [some (.p (eLine L S)), some (.p v), none, some (.p (.int (-1)))]) (st' := []) ?_ st
  rw [rq_of h]
  exact sif_ex (tst_of (op_of (v_of rfl) c_of rfl)) (raise_of (ys := [.non]) (one_of (call_of (one_of (v_of rfl)) (told_neg _))) rfl rfl)
theorem rq_long {xs : List PV} (h : 10 < xs.length) (st : Sto) : m_require_asked [.p (eLine L S), .p (.tup xs)] st = .ex c_BadAsked (bAsked .non) st := rq_none (by rw [firstW_tup, if_neg (by omega)]) st
theorem rq_notup {v : PV} (h : bIsi isT [.p v, .p (.ty "tuple")] [] = .ok (.p (.bl false)) []) (st : Sto) : m_require_asked [.p (eLine L S), .p v] st = .ex c_BadAsked (bAsked .non) st := rq_none (by
  unfold firstW
  rw [h]) st
end
/-! ### loads -/
theorem ix0 {p : Sp2} {env : EE} {st st1 : Sto} {r : RX} (h : r env st = .ok (.p (eSp p)) st1) : r2s pIx r (rC (.int 0)) env st = .ok (.p (.int (p.1 : Int))) st1 := ix_p h c_of (ix_tup_nat (k := 0) rfl)
theorem ix1 {p : Sp2} {env : EE} {st st1 : Sto} {r : RX} (h : r env st = .ok (.p (eSp p)) st1) : r2s pIx r (rC (.int 1)) env st = .ok (.p (.int (p.2 : Int))) st1 := ix_p h c_of (ix_tup_nat (k := 1) rfl)
section
variable {L S : Nat} {asks : List Sp2} (hL : L ≤ 5) (hw : ∀ q ∈ asks, q.1 < q.2 ∧ q.2 ≤ L) (h10 : asks.length ≤ 10)
include hL hw h10
end
/-! ### the greatest -/
section
variable {L S : Nat} {asks : List Sp2} (hL : L ≤ 5) (h0 : 0 < L) (hw : ∀ q ∈ asks, q.1 < q.2 ∧ q.2 ≤ L) (h10 : asks.length ≤ 10)
include hL h0 hw h10
end
theorem for_all {α : Type} {g : Tg} {bd : RS} {st : Sto} (e : α → PV) (P : α → Bool) (I : EE → Prop) : ∀ (xs : List α) (env : EE), I env →
    (∀ x ∈ xs, ∀ env, I env → ∃ e1, g.set (.p (e x)) env = some e1 ∧ ((P x = true ∧ ∃ e2, I e2 ∧ bd e1 st = .nx e2 st) ∨ (P x = false ∧ bd e1 st = .rt (.p (.bl false)) st))) →
    (xs.all P = true ∧ ∃ e2, I e2 ∧ forGo g bd (xs.map e) env st = .nx e2 st) ∨ (xs.all P = false ∧ forGo g bd (xs.map e) env st = .rt (.p (.bl false)) st)
  | [], env, h, _ => .inl ⟨rfl, env, h, rfl⟩
  | x :: xs, env, h, hb => by
    obtain ⟨e1, hs, q⟩ := hb x List.mem_cons_self env h
    rw [List.map_cons, List.all_cons]
    rcases q with ⟨p, e2, i2, q⟩ | ⟨p, q⟩
    · rw [p, Bool.true_and, for_nx hs q]
      exact for_all e P I xs e2 i2 fun y hy => hb y (List.mem_cons_of_mem _ hy)
    · rw [p, Bool.false_and]
      exact .inr ⟨rfl, for_rt hs q⟩
def meetB (p q : Sp2) : Bool := decide (p.1 < q.2) && decide (q.1 < p.2)
def clash (asks : List Sp2) (value : List Nat) (k j : Nat) : Bool := decide (value.getD k 0 = value.getD j 0) && meetB (asks.getD k (0, 0)) (asks.getD j (0, 0))
def apartB (asks : List Sp2) (value : List Nat) : Bool := (List.range asks.length).all fun k => (List.range k).all fun j => !clash asks value k j
theorem apartB_iff {asks : List Sp2} {value : List Nat} : apartB asks value = true ↔ ∀ k m, k < asks.length → m < asks.length → k ≠ m → value.getD k 0 = value.getD m 0 → ¬ meet (asks.getD k (0, 0)) (asks.getD m (0, 0)) := by
  unfold apartB clash meetB meet
  simp only [List.all_eq_true, List.mem_range, Bool.not_eq_true', Bool.and_eq_false_iff, decide_eq_false_iff_not]
  constructor
  · intro h k m hk hm hne he ⟨a, b⟩
    rcases Nat.lt_or_gt_of_ne hne with q | q
    · have := h m hm k q
      rcases this with z | z | z
      · exact z he.symm
      · exact z b
      · exact z a
    · have := h k hk m q
      rcases this with z | z | z
      · exact z he
      · exact z a
      · exact z b
  · intro h k hk j hj
    by_cases e : value.getD k 0 = value.getD j 0
    · right
      by_cases a : (asks.getD k (0, 0)).1 < (asks.getD j (0, 0)).2
      · right
        intro b
        exact h k j hk (by omega) (by omega) e ⟨a, b⟩
      · exact .inl a
    · exact .inl e
theorem at_ask {asks : List Sp2} {k : Nat} (h : k < asks.length) : (asks.map eSp)[k]? = some (eSp (asks.getD k (0, 0))) := map_get eSp (getD_get h)
theorem at_val {value : List Nat} {k : Nat} (h : k < value.length) : (value.map eN)[k]? = some (eN (value.getD k 0)) := map_get eN (getD_get h)
theorem ixN {xs : List PV} {z : PV} {k : Nat} {env : EE} {st : Sto} {ra rb : RX} (h1 : ra env st = .ok (.p (.tup xs)) st) (h2 : rb env st = .ok (.p (.int (k : Int))) st) (h : xs[k]? = some z) : r2s pIx ra rb env st = .ok (.p z) st := ix_p h1 h2 (ix_tup_nat h)
section
variable {asks : List Sp2} {value : List Nat} (hl : value.length = asks.length) (h100 : asks.length ≤ 1000)
include hl h100
theorem law_apart_ok (st : Sto) : m__law_apart [.p (eAsk asks), .p (eNs value)] st = .ok (.p (.bl (apartB asks value))) st := by
  refine pure_rt (xs := [eAsk asks, eNs value]) (st' := []) ?_ st
  unfold b__law_apart
  have key := for_all (g := .nm 2) (bd := (sFor (rRange1 (rCons (rVar 2) rNil)) (.nm 3) (sIf (rAnd (rTst (r2 pEq (r2s pIx (rVar 1) (rVar 2)) (r2s pIx (rVar 1) (rVar 3)))) (rAnd (rTst (r2 pLt (r2s pIx (r2s pIx (rVar 0) (rVar 2)) (rC (.int 0))) (r2s pIx (r2s pIx (rVar 0) (rVar 3)) (rC (.int 1))))) (rTst (r2 pLt (r2s pIx (r2s pIx (rVar 0) (rVar 3)) (rC (.int 0))) (r2s pIx (r2s pIx (rVar 0) (rVar 2)) (rC (.int 1))))))) (sRet (rC (.bl false))) sNil))) (st := []) (fun k : Nat => PV.int (k : Int)) (fun k => (List.range k).all fun j => !clash asks value k j) (fun env => ∃ y2 y3, env = [some (.p (eAsk asks)), some (.p (eNs value)), y2, y3]) (List.range asks.length) _ ⟨none, none, rfl⟩ (fun k hk env ⟨y2, y3, ee⟩ => by
    subst ee
    have hk := List.mem_range.mp hk
    refine ⟨_, rfl, ?_⟩
    have inner := for_all (g := .nm 3) (bd := (sIf (rAnd (rTst (r2 pEq (r2s pIx (rVar 1) (rVar 2)) (r2s pIx (rVar 1) (rVar 3)))) (rAnd (rTst (r2 pLt (r2s pIx (r2s pIx (rVar 0) (rVar 2)) (rC (.int 0))) (r2s pIx (r2s pIx (rVar 0) (rVar 3)) (rC (.int 1))))) (rTst (r2 pLt (r2s pIx (r2s pIx (rVar 0) (rVar 3)) (rC (.int 0))) (r2s pIx (r2s pIx (rVar 0) (rVar 2)) (rC (.int 1))))))) (sRet (rC (.bl false))) sNil)) (st := []) (fun k : Nat => PV.int (k : Int)) (fun j => !clash asks value k j) (fun env => ∃ y3, env = [some (.p (eAsk asks)), some (.p (eNs value)), some (.p (.int (k : Int))), y3]) (List.range k) _ ⟨y3, rfl⟩ (fun j hj env ⟨y3, ee⟩ => by
      subst ee
      have hj := List.mem_range.mp hj
      refine ⟨_, rfl, ?_⟩
      have hc : (rAnd (rTst (r2 pEq (r2s pIx (rVar 1) (rVar 2)) (r2s pIx (rVar 1) (rVar 3)))) (rAnd (rTst (r2 pLt (r2s pIx (r2s pIx (rVar 0) (rVar 2)) (rC (.int 0))) (r2s pIx (r2s pIx (rVar 0) (rVar 3)) (rC (.int 1))))) (rTst (r2 pLt (r2s pIx (r2s pIx (rVar 0) (rVar 3)) (rC (.int 0))) (r2s pIx (r2s pIx (rVar 0) (rVar 2)) (rC (.int 1))))))) [some (.p (eAsk asks)), some (.p (eNs value)), some (.p (.int (k : Int))), some (.p (.int (j : Int)))] [] = .ok (clash asks value k j) [] :=
        and_of (tst_of (op_of (ixN (v_of rfl) (v_of rfl) (at_val (by omega))) (ixN (v_of rfl) (v_of rfl) (at_val (by omega))) (eq_nat _ _))) fun _ => and_of (tst_of (op_of (ix0 (ixN (v_of rfl) (v_of rfl) (at_ask hk))) (ix1 (ixN (v_of rfl) (v_of rfl) (at_ask (by omega)))) (pLt_nat _ _))) fun _ => tst_of (op_of (ix0 (ixN (v_of rfl) (v_of rfl) (at_ask (by omega)))) (ix1 (ixN (v_of rfl) (v_of rfl) (at_ask hk))) (pLt_nat _ _))
      cases e : clash asks value k j with
      | true => exact .inr ⟨rfl, (sif_true (hc.trans (by rw [e]))).trans rfl⟩
      | false => exact .inl ⟨rfl, _, ⟨_, rfl⟩, (sif_false (hc.trans (by rw [e]))).trans rfl⟩)
    rcases inner with ⟨a, e2, ⟨y3', i2⟩, q⟩ | ⟨a, q⟩
    · exact .inl ⟨a, e2, ⟨_, _, i2⟩, (for_of (range1_of (one_of (v_of rfl)) (by omega))).trans q⟩
    · exact .inr ⟨a, (for_of (range1_of (one_of (v_of rfl)) (by omega))).trans q⟩)
  have hlen : (rCB bLen (rCons (rVar 0) rNil)) (envOf 4 ([eAsk asks, eNs value].map VV.p)) [] = .ok (.p (.int (asks.length : Nat))) [] := cb_of (one_of (v_of rfl)) (by rw [len_seq (b := false) rfl, List.length_map])
  have h0 := fun bd => for_of (g := .nm 2) (bd := bd) (range1_of (one_of hlen) (by omega))
  show _ = SRes.rt (.p (.bl (apartB asks value))) []
  unfold apartB
  rcases key with ⟨a, e2, ⟨y2, y3, i2⟩, q⟩ | ⟨a, q⟩
  · rw [a]
    exact then_of ((h0 _).trans q) rfl
  · rw [a]
    exact seq_rt ((h0 _).trans q)
theorem are_apart_ok (st : Sto) : m_are_apart [.p (eAsk asks), .p (eNs value)] st = .ok (.p (.bl (apartB asks value))) st := by
  refine pure_rt (xs := [eAsk asks, eNs value]) (st' := []) ?_ st
  unfold b_are_apart
  have hd : ∀ (p q : Sp2) (st : Sto), m_do_meet [.p (eSp p), .p (eSp q)] st = .ok (.p (.bl (meetB p q))) st := fun p q st => pure_rt (xs := [eSp p, eSp q]) (st' := []) (by
    unfold b_do_meet
    exact ret_of (andV_of (op_of (ix0 (v_of rfl)) (ix1 (v_of rfl)) (pLt_nat _ _)) fun _ => op_of (ix0 (v_of rfl)) (ix1 (v_of rfl)) (pLt_nat _ _))) st
  let eE : Nat → PV := fun k => .tup [.int (k : Int), eSp (asks.getD k (0, 0))]
  have key := for_all (g := (.cons (.nm 2) (.cons (.nm 3) .nil))) (bd := (sFor (rRange1 (rCons (rVar 2) rNil)) (.nm 4) (sIf (rAnd (rTst (r2 pEq (r2s pIx (rVar 1) (rVar 2)) (r2s pIx (rVar 1) (rVar 4)))) (rTst (rCall (rArity 2 (m_do_meet)) (rCons (rVar 3) (rCons (r2s pIx (rVar 0) (rVar 4)) rNil))))) (sRet (rC (.bl false))) sNil))) (st := []) eE (fun k => (List.range k).all fun j => !clash asks value k j) (fun env => ∃ y2 y3 y4, env = [some (.p (eAsk asks)), some (.p (eNs value)), y2, y3, y4]) (List.range asks.length) _ ⟨none, none, none, rfl⟩ (fun k hk env ⟨y2, y3, y4, ee⟩ => by
    subst ee
    have hk := List.mem_range.mp hk
    refine ⟨_, rfl, ?_⟩
    have inner := for_all (g := .nm 4) (bd := (sIf (rAnd (rTst (r2 pEq (r2s pIx (rVar 1) (rVar 2)) (r2s pIx (rVar 1) (rVar 4)))) (rTst (rCall (rArity 2 (m_do_meet)) (rCons (rVar 3) (rCons (r2s pIx (rVar 0) (rVar 4)) rNil))))) (sRet (rC (.bl false))) sNil)) (st := []) (fun k : Nat => PV.int (k : Int)) (fun j => !clash asks value k j) (fun env => ∃ y3, env = [some (.p (eAsk asks)), some (.p (eNs value)), some (.p (.int (k : Int))), some (.p (eSp (asks.getD k (0, 0)))), y3]) (List.range k) _ ⟨y4, rfl⟩ (fun j hj env ⟨y3, ee⟩ => by
      subst ee
      have hj := List.mem_range.mp hj
      refine ⟨_, rfl, ?_⟩
      have hc : (rAnd (rTst (r2 pEq (r2s pIx (rVar 1) (rVar 2)) (r2s pIx (rVar 1) (rVar 4)))) (rTst (rCall (rArity 2 (m_do_meet)) (rCons (rVar 3) (rCons (r2s pIx (rVar 0) (rVar 4)) rNil))))) [some (.p (eAsk asks)), some (.p (eNs value)), some (.p (.int (k : Int))), some (.p (eSp (asks.getD k (0, 0)))), some (.p (.int (j : Int)))] [] = .ok (clash asks value k j) [] :=
        and_of (tst_of (op_of (ixN (v_of rfl) (v_of rfl) (at_val (by omega))) (ixN (v_of rfl) (v_of rfl) (at_val (by omega))) (eq_nat _ _))) fun _ => tst_of (call_of (two_of (v_of rfl) (ixN (v_of rfl) (v_of rfl) (at_ask (by omega)))) (hd _ _ _))
      cases e : clash asks value k j with
      | true => exact .inr ⟨rfl, (sif_true (hc.trans (by rw [e]))).trans rfl⟩
      | false => exact .inl ⟨rfl, _, ⟨_, rfl⟩, (sif_false (hc.trans (by rw [e]))).trans rfl⟩)
    rcases inner with ⟨a, e2, ⟨y3', i2⟩, q⟩ | ⟨a, q⟩
    · exact .inl ⟨a, e2, ⟨_, _, _, i2⟩, (for_of (range1_of (one_of (v_of rfl)) (by omega))).trans q⟩
    · exact .inr ⟨a, (for_of (range1_of (one_of (v_of rfl)) (by omega))).trans q⟩)
  have hen : enumF 0 (asks.map eSp) = (List.range asks.length).map eE := by
    apply List.ext_getElem?
    intro i
    by_cases h : i < asks.length
    · have h1 : i < (enumF 0 (asks.map eSp)).length := by rw [enumF_len, List.length_map]; exact h
      obtain ⟨x, e1, e2⟩ := enumF_get (asks.map eSp) 0 i _ (List.getElem?_eq_getElem h1)
      rw [List.getElem?_eq_getElem h1, e2, List.getElem?_map, List.getElem?_range h]
      rw [at_ask h] at e1
      cases e1
      show some _ = some (eE i)
      rw [Nat.zero_add]
    · rw [List.getElem?_eq_none (by rw [enumF_len, List.length_map]; omega), List.getElem?_eq_none (by simp; omega)]
  have h0 := for_of (g := (.cons (.nm 2) (.cons (.nm 3) .nil))) (env := envOf 5 ([eAsk asks, eNs value].map VV.p)) (st := []) (ri := rEnum (rCons (rVar 0) rNil)) (bd := (sFor (rRange1 (rCons (rVar 2) rNil)) (.nm 4) (sIf (rAnd (rTst (r2 pEq (r2s pIx (rVar 1) (rVar 2)) (r2s pIx (rVar 1) (rVar 4)))) (rTst (rCall (rArity 2 (m_do_meet)) (rCons (rVar 3) (rCons (r2s pIx (rVar 0) (rVar 4)) rNil))))) (sRet (rC (.bl false))) sNil))) ((enum_tup (one_of (v_of rfl))).trans (by rw [hen]))
  show _ = SRes.rt (.p (.bl (apartB asks value))) []
  unfold apartB
  rcases key with ⟨a, e2, ⟨y2, y3, y4, i2⟩, q⟩ | ⟨a, q⟩
  · rw [a]
    exact then_of (h0.trans q) rfl
  · rw [a]
    exact seq_rt (h0.trans q)
end
/-! ### is_seating -/
theorem whole_int (i : Int) (st : Sto) : m_is_whole [.p (.int i)] st = .ok (.p (.bl true)) st := pure_rt (xs := [.int i]) (st' := []) rfl st
section
variable {L S : Nat} {asks : List Sp2} (hw : ∀ q ∈ asks, q.1 < q.2 ∧ q.2 ≤ L) (h10 : asks.length ≤ 10) {seats : Nat} (hs : seats ≤ 10)
abbrev is0 : RS := (sExpr (rCall (rArity 2 (m_require_asked)) (rCons (rVar 0) (rCons (rVar 1) rNil))))
abbrev is1 : RS := (sIf (rNot (rTst (rCall (rArity 3 (m_is_within)) (rCons (rVar 2) (rCons (rC (.int 0)) (rCons (rC (.int 10)) rNil)))))) (sRaise 1 ["value"] (rCons (rVar 2) rNil)) sNil)
abbrev is2 : RS := (sIf (rOr (rNot (rTst (rCB (bIsi isT) (rCons (rVar 3) (rCons (rC (.ty "tuple")) rNil))))) (rTst (r2 pNe (rCB bLen (rCons (rVar 3) rNil)) (rCB bLen (rCons (rVar 1) rNil))))) (sRet (rC (.bl false))) sNil)
abbrev is3 : RS := (sRet (rAndV (rCB bAll (rCons (rLc [4] (rItems (rVar 3)) (.nm 4) rYes (rAndV (rCall (rArity 1 (m_is_whole)) (rCons (rVar 4) rNil)) (rCh pLe pLt (rC (.int 0)) (rVar 4) (rVar 2)))) rNil)) (rCall (rArity 2 (m_are_apart)) (rCons (rVar 1) (rCons (rVar 3) rNil)))))
theorem b_is_seating_eq : b_is_seating = sSeq is0 (sSeq is1 (sSeq is2 is3)) := rfl
theorem within_nat {a b c : Nat} (h1 : a ≤ b) (h2 : b ≤ c) (st : Sto) : m_is_within [.p (.int (b : Int)), .p (.int (a : Int)), .p (.int (c : Int))] st = .ok (.p (.bl true)) st := by
  rw [is_within_int, decide_eq_true (by omega), decide_eq_true (by omega)]; rfl
include hw h10 hs
theorem iss_go {v : PV} {r : SRes} (h : sSeq is2 is3 (envOf 5 ([eLine L S, eAsk asks, .int (seats : Int), v].map VV.p)) [] = r) : b_is_seating (envOf 5 ([eLine L S, eAsk asks, .int (seats : Int), v].map VV.p)) [] = r := by
  rw [b_is_seating_eq]
  refine then_of (expr_of (call_of (two_of (v_of rfl) (v_of rfl)) (rq_ok hw h10 _))) ?_
  exact (skip_of (not_of (b := true) (tst_of (call_of (three_of (v_of rfl) c_of c_of) (within_nat (a := 0) (c := 10) (Nat.zero_le _) hs _))))).trans h
theorem seating_notup {v : PV} (h : bIsi isT [.p v, .p (.ty "tuple")] [] = .ok (.p (.bl false)) []) (st : Sto) : m_is_seating [.p (eLine L S), .p (eAsk asks), .p (.int (seats : Int)), .p v] st = .ok (.p (.bl false)) st := by
  refine pure_rt (xs := [eLine L S, eAsk asks, .int (seats : Int), v]) (st' := []) (iss_go hw h10 hs ?_) st
  exact take_of (or_of (a := true) (b := true) (not_of (b := false) (tst_of (cb_of (two_of (v_of rfl) c_of) h))) fun z => by cases z) rfl
theorem seating_len {xs : List PV} (h : xs.length ≠ asks.length) (st : Sto) : m_is_seating [.p (eLine L S), .p (eAsk asks), .p (.int (seats : Int)), .p (.tup xs)] st = .ok (.p (.bl false)) st := by
  refine pure_rt (xs := [eLine L S, eAsk asks, .int (seats : Int), .tup xs]) (st' := []) (iss_go hw h10 hs ?_) st
  refine take_of (or_of (a := false) (b := true) (not_of (b := true) (tst_of (cb_of (two_of (v_of rfl) c_of) rfl))) fun _ => tst_of (op_of (cb_of (one_of (v_of rfl)) (len_seq (b := false) rfl)) (cb_of (one_of (v_of rfl)) (len_seq (b := false) rfl)) ?_)) rfl
  rw [List.length_map, pNe_nat, decide_eq_false h]
  rfl
theorem iss_tup {xs : List PV} (h : xs.length = asks.length) {r : SRes} (hr : is3 (envOf 5 ([eLine L S, eAsk asks, .int (seats : Int), .tup xs].map VV.p)) [] = r) : b_is_seating (envOf 5 ([eLine L S, eAsk asks, .int (seats : Int), .tup xs].map VV.p)) [] = r := by
  refine iss_go hw h10 hs ((skip_of (or_of (a := false) (b := false) (not_of (b := true) (tst_of (cb_of (two_of (v_of rfl) c_of) rfl))) fun _ => tst_of (op_of (cb_of (one_of (v_of rfl)) (len_seq (b := false) rfl)) (cb_of (one_of (v_of rfl)) (len_seq (b := false) rfl)) ?_))).trans hr)
  rw [List.length_map, pNe_nat, decide_eq_true h]
  rfl
/-- all of one kind that is no seat -/
theorem seating_none {x : PV} {n : Nat} (hn : 0 < n) (h : n = asks.length) (hx : ∀ env : EE, env[4]? = some (some (.p x)) → env[2]? = some (some (.p (.int (seats : Int)))) → (rAndV (rCall (rArity 1 (m_is_whole)) (rCons (rVar 4) rNil)) (rCh pLe pLt (rC (.int 0)) (rVar 4) (rVar 2))) env [] = .ok (.p (.bl false)) []) (st : Sto) :
    m_is_seating [.p (eLine L S), .p (eAsk asks), .p (.int (seats : Int)), .p (.tup (List.replicate n x))] st = .ok (.p (.bl false)) st := by
  refine pure_rt (xs := [eLine L S, eAsk asks, .int (seats : Int), .tup (List.replicate n x)]) (st' := []) (iss_tup hw h10 hs (by simpa using h) ?_) st
  refine ret_of (andV_of (a := false) (b := false) (cb_of (one_of (lc_map (List.replicate n x) id (fun _ => .bl false) (items_tup (v_of (by rw [List.map_id]; rfl))) (lt rfl) (fun y hy => hx _ (by rw [(List.mem_replicate.mp hy).2]; rfl) rfl) (by simp; omega))) ?_) fun z => by cases z)
  rw [all_of rfl (blsOf_map (fun _ => false) _)]
  congr 3
  rw [List.all_eq_false]
  refine ⟨false, ?_, by decide⟩
  cases n with
  | zero => exact absurd hn (by decide)
  | succ n => simp [List.replicate_succ]
theorem seating_ok {value : List Nat} (h : value.length = asks.length) (st : Sto) : m_is_seating [.p (eLine L S), .p (eAsk asks), .p (.int (seats : Int)), .p (eNs value)] st = .ok (.p (.bl ((value.all fun k => decide (k < seats)) && apartB asks value))) st := by
  refine pure_rt (xs := [eLine L S, eAsk asks, .int (seats : Int), eNs value]) (st' := []) (iss_tup hw h10 hs (by simpa using h) ?_) st
  refine ret_of (andV_of (cb_of (one_of (lc_map value eN (fun k => .bl (decide (k < seats))) (items_tup (v_of rfl)) (lt rfl) (fun k _ => ?_) (by omega))) ?_) fun _ => call_of (two_of (v_of rfl) (v_of rfl)) (are_apart_ok h (by omega) _))
  · refine (andV_of (a := true) (b := decide (k < seats)) (call_of (one_of (v_of rfl)) (whole_int _ _)) fun _ => ?_).trans (by rw [Bool.true_and])
    refine (ch_of (u := true) c_of (v_of rfl) ?_ fun _ => ⟨v_of rfl, pLt_nat _ _⟩).trans (by rw [Bool.true_and])
    exact (pLe_nat 0 k).trans (by rw [decide_eq_true (Nat.zero_le _)])
  · rw [all_of rfl (blsOf_map (fun k => decide (k < seats)) _), List.all_map]
    rfl
end
theorem seating_ex {l a n v : PV} {c : Nat} {us : List PV} (h : ∀ st, m_require_asked [.p l, .p a] st = .ex c us st) (st : Sto) : m_is_seating [.p l, .p a, .p n, .p v] st = .ex c us st := by
  refine pure_ex (xs := [l, a, n, v]) (e' := envOf 5 ([l, a, n, v].map VV.p)) (st' := []) ?_ st
  rw [b_is_seating_eq]
  exact seq_ex (expr_ex (call_exx (two_of (v_of rfl) (v_of rfl)) (h _)))
abbrev bNum (v : PV) : List PV := [.ins c_BadNumber ["value"] [v]]
theorem seating_num {L S : Nat} {asks : List Sp2} (hw : ∀ q ∈ asks, q.1 < q.2 ∧ q.2 ≤ L) (h10 : asks.length ≤ 10) {n v : PV} (h : ∀ st, m_is_within [.p n, .p (.int 0), .p (.int 10)] st = .ok (.p (.bl false)) st) (st : Sto) : m_is_seating [.p (eLine L S), .p (eAsk asks), .p n, .p v] st = .ex c_BadNumber (bNum n) st := by
  refine pure_ex (xs := [eLine L S, eAsk asks, n, v]) (e' := envOf 5 ([eLine L S, eAsk asks, n, v].map VV.p)) (st' := []) ?_ st
  rw [b_is_seating_eq]
  refine then_of (expr_of (call_of (two_of (v_of rfl) (v_of rfl)) (rq_ok hw h10 _))) ?_
  exact seq_ex (sif_ex (not_of (b := false) (tst_of (call_of (three_of (v_of rfl) c_of c_of) (h _)))) (raise_of (ys := [n]) (one_of (v_of rfl)) rfl rfl))
/-! ### shows_least -/
section
variable {L S : Nat} {asks : List Sp2} (hw : ∀ q ∈ asks, q.1 < q.2 ∧ q.2 ≤ L) (h10 : asks.length ≤ 10)
include hw h10
end
theorem ixN_nat {n k : Nat} (h : k < n) : L2.ixN n (k : Int) = some k := by
  unfold L2.ixN
  rw [if_pos (by omega), if_pos (by omega)]
  simp
theorem putIx_lst {st : Sto} {n k : Nat} {xs : List PV} {x : PV} (h : st[n]? = some (some (.lst false xs))) (hk : k < xs.length) : putIx (.ref n) (.p (.int (k : Int))) (.p x) st = some (st.set n (some (.lst false (xs.set k x)))) := by
  unfold putIx
  dsimp only
  rw [h]
  dsimp only
  rw [ixN_nat hk]
theorem ix_ref {st : Sto} {n k : Nat} {b : Bool} {xs : List PV} {z : PV} (h : st[n]? = some (some (.lst b xs))) (hz : xs[k]? = some z) : pIx st (.ref n) (.p (.int (k : Int))) = some z := by
  unfold pIx
  dsimp only
  rw [h]
  dsimp only
  rw [atI_nat', hz]
theorem seq_ref {st : Sto} {n : Nat} {b : Bool} {xs : List PV} (h : st[n]? = some (some (.lst b xs))) : seqOf st (.ref n) = some (true, xs) := by
  unfold seqOf
  dsimp only
  rw [h]
/-! draws, the row's state left open -/
def Dr (ns : List Int) (T : Sto) (st : Sto) : Prop := ∃ a b c : Int, 0 ≤ a ∧ st = rowT ns a b c T
section
variable {ns : List Int} {T st : Sto}
theorem Dr.len (h : Dr ns T st) : st.length = T.length + 1 := by
  obtain ⟨a, b, c, _, rfl⟩ := h
  rfl
theorem Dr.get (h : Dr ns T st) (n : Nat) : st[n + 1]? = T[n]? := by
  obtain ⟨a, b, c, _, rfl⟩ := h
  rfl
theorem Dr.app (h : Dr ns T st) (x : Sto) : Dr ns (T ++ x) (st ++ x) := by
  obtain ⟨a, b, c, ha, rfl⟩ := h
  exact ⟨a, b, c, ha, rfl⟩
theorem Dr.set (h : Dr ns T st) (n : Nat) (x : Option Ob) : Dr ns (T.set n x) (st.set (n + 1) x) := by
  obtain ⟨a, b, c, ha, rfl⟩ := h
  exact ⟨a, b, c, ha, rfl⟩
theorem takenD (ht : Far T) (h : Dr ns T st) {n : Nat} (hn : 0 < n) (hn2 : n < 1000000) : ∃ (i : Nat) (st' : Sto), i < n ∧ Dr ns T st' ∧ m__law_taken [.ref 0, .p (.int (n : Int))] st = .ok (.p (.int (i : Int))) st' := by
  obtain ⟨a, b, c, ha, rfl⟩ := h
  obtain ⟨i, a', b', c', i0, i1, ha', e⟩ := taken ht ns a b c n ha (by omega) (by omega)
  obtain ⟨k, rfl⟩ : ∃ k : Nat, i = k := ⟨i.toNat, by omega⟩
  exact ⟨k, _, by omega, ⟨a', b', c', ha', rfl⟩, e⟩
theorem pickD (ht : Far T) (h : Dr ns T st) {xs : List PV} (hn : 0 < xs.length) (hn2 : xs.length < 1000000) : ∃ (x : PV) (st' : Sto), x ∈ xs ∧ Dr ns T st' ∧ m__law_pick [.ref 0, .p (.lst xs)] st = .ok (.p x) st' := by
  obtain ⟨a, b, c, ha, rfl⟩ := h
  obtain ⟨k, hk, a', b', c', ha', e⟩ := pick ht xs ns a b c ha hn (by omega)
  exact ⟨_, _, List.getElem_mem hk, ⟨a', b', c', ha', rfl⟩, e⟩
theorem lcrX {n i : Nat} {X : NV} {ri : RI} {r : RX} {st1 : Sto} (I : Sto → Prop) (P : PV → PV → Prop) {xs : List PV} (hr : ri (EV n X) st = .ok xs st1) (h : I st1) (hl : xs.length ≤ 16777216)
    (hb : ∀ x ∈ xs, ∀ st, I st → ∃ z st', r (EV n (up X i (some (.p x)))) st = .ok (.p z) st' ∧ I st' ∧ P x z) (hi : i < n := by exact Ev.lt rfl) :
    ∃ zs st', rLc [i] ri (.nm i) rYes r (EV n X) st = .ok (.p (.lst zs)) st' ∧ I st' ∧ zs.length = xs.length ∧ ∀ z ∈ zs, ∃ x ∈ xs, P x z := by
  refine lc_run I P hr (by rw [wipe1X hi, EV_len]; exact hi) h hl fun x hx st hst => ?_
  rw [wipe1X hi, EV_set hi, up_up]
  exact hb x hx st hst
theorem back_of {α : Type} {e : α → PV} {p : α → Prop} : ∀ (zs : List PV), (∀ z ∈ zs, ∃ a, p a ∧ z = e a) → ∃ as : List α, zs = as.map e ∧ as.length = zs.length ∧ ∀ a ∈ as, p a
  | [], _ => ⟨[], rfl, rfl, fun a h => by cases h⟩
  | z :: zs, h => by
    obtain ⟨a, pa, rfl⟩ := h z List.mem_cons_self
    obtain ⟨as, e1, e2, e3⟩ := back_of zs fun y hy => h y (List.mem_cons_of_mem _ hy)
    refine ⟨a :: as, by rw [List.map_cons, ← e1], by rw [List.length_cons, List.length_cons, e2], fun x hx => ?_⟩
    rcases List.mem_cons.mp hx with rfl | hx
    · exact pa
    · exact e3 x hx
end
theorem line_newT {L S : Nat} (h : 0 < L) (hL : L ≤ 5) (h3 : 0 < S) (h4 : S ≤ 4) {env : EE} {st st1 : Sto} {t : RA} (ht : t env st = .ok [.p (.int (L : Int)), .p (.int (S : Int))] st1) : rFrz 8 (rMake c_Line (rArity 3 (m_Line___init__)) t) env st = .ok (.p (eLine L S)) (st1 ++ [none]) := by
  have := line_new h hL h3 h4 (env := [some (.p (.int (L : Int))), some (.p (.int (S : Int)))]) st1 (a := rVar 0) (b := rVar 1) (fun _ => v_of rfl) (fun _ => v_of rfl)
  refine Eq.trans ?_ this
  unfold rFrz rMake
  rw [ht, two_of (env := [some (.p (.int (L : Int))), some (.p (.int (S : Int)))]) (x := .p (.int (L : Int))) (x' := .p (.int (S : Int))) (r := rVar 0) (r' := rVar 1) (st := st1) (st1 := st1) (st2 := st1) (v_of rfl) (v_of rfl)]
theorem one_add (l : Nat) : pAdd (.int 1) (.int (l : Int)) = some (.int ((l + 1 : Nat) : Int)) := by
  show some (PV.int (1 + (l : Int))) = _
  congr 2
  omega
theorem add_one (l : Nat) : pAdd (.int (l : Int)) (.int 1) = some (.int ((l + 1 : Nat) : Int)) := rfl
theorem sub_nat {a b : Nat} (h : b ≤ a) : pSub (.int (a : Int)) (.int (b : Int)) = some (.int ((a - b : Nat) : Int)) := by
  show some (PV.int ((a : Int) - (b : Int))) = _
  congr 2
  omega
/-! asked stretches drawn -/
def exX (l : List VV) : NV := fun i => l[i]?
theorem askedD {ns : List Int} {T st : Sto} (ht : Far T) (h : Dr ns T st) {L : Nat} (h0 : 0 < L) (hL : L ≤ 5) {most : Nat} (hm : most ≤ 10) : ∃ (asks : List Sp2) (st' : Sto), (∀ q ∈ asks, q.1 < q.2 ∧ q.2 ≤ L) ∧ asks.length ≤ most ∧ Dr ns T st' ∧ m__law_asked [.ref 0, .p (.int (L : Int)), .p (.int (most : Int))] st = .ok (.p (eAsk asks)) st' := by
  let X0 : NV := exX [.ref 0, .p (.int (L : Int)), .p (.int (most : Int))]
  have e0 : envOf 8 [.ref 0, .p (.int (L : Int)), .p (.int (most : Int))] = EV 8 X0 := rfl
  obtain ⟨x, st1, hx, h1, e1⟩ := pickD ht h (xs := [.int 1, .int 2, .int 5]) (by decide) (by decide)
  obtain ⟨lo, rfl, hlo⟩ : ∃ lo : Nat, x = .int (lo : Int) ∧ 1 ≤ lo := by
    simp only [List.mem_cons, List.mem_nil_iff, or_false] at hx
    rcases hx with rfl | rfl | rfl
    · exact ⟨1, rfl, by omega⟩
    · exact ⟨2, rfl, by omega⟩
    · exact ⟨5, rfl, by omega⟩
  let sh := (spans L).filter fun p => decide (p.2 - p.1 ≤ lo)
  have hsh : (0, 1) ∈ sh := List.mem_filter.mpr ⟨mem_spans.mpr ⟨by decide, h0⟩, by simpa using hlo⟩
  have hsl : sh.length ≤ 1000 := Nat.le_trans (List.length_filter_le _ _) (spans_len (by omega))
  obtain ⟨m, st2, hm2, h2, e2⟩ := takenD ht h1 (n := most + 1) (by omega) (by omega)
  let X1 : NV := up (up X0 3 (some (.p (.lst ((spans L).map eSp))))) 4 (some (.p (.int (lo : Int))))
  let X2 : NV := up X1 5 (some (.p (.lst (sh.map eSp))))
  have s0 : (sAsg (rTup (rCons (rCall (rArity 1 (m__law_all)) (rCons (rVar 1) rNil)) (rCons (rCall (rArity 2 (m__law_pick)) (rCons (rVar 0) (rCons (rLst (rCons (rC (.int 1)) (rCons (rC (.int 2)) (rCons (rC (.int 5)) rNil)))) rNil))) rNil))) (.cons (.nm 3) (.cons (.nm 4) .nil))) (EV 8 X0) st = .nx (EV 8 X1) st1 :=
    asg2X (tup_of (two_of (call_of (one_of (vX rfl)) (law_all_ok (by omega) _)) (call_of (two_of (vX rfl) (lst_of (ys := [.int 1, .int 2, .int 5]) (three_of c_of c_of c_of) rfl)) e1)) rfl)
  have s1 : (sAsg (rLc [6] (rItems (rVar 3)) (.nm 6) (rTst (r2 pLe (r2 pSub (r2s pIx (rVar 6) (rC (.int 1))) (r2s pIx (rVar 6) (rC (.int 0)))) (rVar 4))) (rVar 6)) (.nm 5)) (EV 8 X1) st1 = .nx (EV 8 X2) st1 := by
    refine asgX (lcX (spans L) eSp (fun p => decide (p.2 - p.1 ≤ lo)) eSp (items_lst (vX rfl)) (fun p hp => ⟨tst_of (op_of (op_of (ix1 (vX rfl)) (ix0 (vX rfl)) (sub_nat ?_)) (vX rfl) (pLe_nat _ _)), fun _ => vX rfl⟩) (Nat.le_trans (spans_len (by omega)) (by decide)))
    have := mem_spans.mp hp
    omega
  obtain ⟨zs, st3, e3, h3, hz1, hz2⟩ := lcrX (n := 8) (i := 7) (X := X2) (ri := rRange1 (rCons (rCall (rArity 2 (m__law_taken)) (rCons (rVar 0) (rCons (r2 pAdd (rVar 2) (rC (.int 1))) rNil))) rNil)) (r := rCall (rArity 2 (m__law_pick)) (rCons (rVar 0) (rCons (rVar 5) rNil))) (st := st1) (Dr ns T) (fun _ z => ∃ p : Sp2, (p.1 < p.2 ∧ p.2 ≤ L) ∧ z = eSp p) (range1_of (n := m) (one_of (call_of (two_of (vX rfl) (op_of (vX rfl) c_of (add_one _))) e2)) (by omega)) h2 (by simp; omega) (fun x hx st hst => by
      obtain ⟨z, st', hz, hd, e⟩ := pickD ht hst (xs := sh.map eSp) (by rw [List.length_map]; exact List.length_pos_of_mem hsh) (by rw [List.length_map]; omega)
      obtain ⟨p, hp, rfl⟩ := List.mem_map.mp hz
      exact ⟨_, st', call_of (two_of (vX rfl) (vX rfl)) e, hd, p, mem_spans.mp (List.mem_filter.mp hp).1, rfl⟩)
  obtain ⟨asks, rfl, hal, hap⟩ := back_of (e := eSp) (p := fun p : Sp2 => p.1 < p.2 ∧ p.2 ≤ L) zs (fun z hz => by
    obtain ⟨_, _, p, a, b⟩ := hz2 z hz
    exact ⟨p, a, b⟩)
  refine ⟨asks, st3, hap, ?_, h3, ?_⟩
  · rw [hal, hz1]; simp; omega
  · have q : b__law_asked (envOf 8 [.ref 0, .p (.int (L : Int)), .p (.int (most : Int))]) st = .rt (.p (eAsk asks)) st3 := by
      rw [e0]
      unfold b__law_asked
      exact then_of s0 (then_of s1 (ret_of (cb_of (one_of e3) (tuple_seq rfl))))
    obtain ⟨a, b, c, ha, rfl⟩ := h
    obtain ⟨a', b', c', ha', rfl⟩ := h3
    have x1 := cut_row ht ns a' b' c' (rowT ns a b c T).length [] rfl
    have x2 := take_row (t := T) ns a' b' c' (rowT ns a b c T).length [] rfl
    rw [List.append_nil] at x1 x2
    exact (gc_rt q x1).trans (by rw [x2])
variable {L S : Nat}
theorem row_lst (xs : List PV) (n : PV) (st : Sto) : m_is_row [.p (.lst xs), .p n] st = .ok (.p (.bl false)) st := pure_rt (xs := [.lst xs, n]) (st' := []) rfl st
theorem row_bl (b : Bool) (n : PV) (st : Sto) : m_is_row [.p (.bl b), .p n] st = .ok (.p (.bl false)) st := pure_rt (xs := [.bl b, n]) (st' := []) rfl st
theorem same_ok {x : PV} {n m : Nat} (h : Rok x n m) (hn : n ≤ 16777216) (hm : m ≤ 100) (st : Sto) : m__law_same [.p x, .p x] st = .ok (.p (.bl true)) st := by
  obtain ⟨d, e, f⟩ := h.show hn hm
  exact pure_rt (xs := [x, x]) (ret_of (op_of (cb_of (one_of (v_of rfl)) (repr_of e f _)) (cb_of (one_of (v_of rfl)) (repr_of e f _)) (eq_self_str _))) st
theorem within_bl (b : Bool) (x y : PV) (st : Sto) : m_is_within [.p (.bl b), .p x, .p y] st = .ok (.p (.bl false)) st := pure_rt (xs := [.bl b, x, y]) (st' := []) rfl st
theorem within_non (x y : PV) (st : Sto) : m_is_within [.p .non, .p x, .p y] st = .ok (.p (.bl false)) st := pure_rt (xs := [.non, x, y]) (st' := []) rfl st
theorem within_str (z : Str) (x y : PV) (st : Sto) : m_is_within [.p (.str z), .p x, .p y] st = .ok (.p (.bl false)) st := pure_rt (xs := [.str z, x, y]) (st' := []) rfl st
theorem row2 (a b : PV) (st : Sto) : m_is_row [.p (.tup [a, b]), .p (.int 2)] st = .ok (.p (.bl true)) st := is_row_tup [a, b] 2 st
theorem str_first {a b : PV} (h : ∀ st, m_is_within [.p a, .p (.int 0), .p (.int ((L : Int) - 1))] st = .ok (.p (.bl false)) st) (st : Sto) : m_is_stretch [.p (eLine L S), .p (.tup [a, b])] st = .ok (.p (.bl false)) st := by
  refine pure_rt (xs := [eLine L S, .tup [a, b]]) (st' := []) ?_ st
  unfold b_is_stretch
  exact take_of (or_of (a := false) (b := true) (not_of (b := true) (tst_of (call_of (two_of (v_of rfl) c_of) (row2 _ _ _)))) fun _ => not_of (b := false) (tst_of (call_of (three_of (ix_p (v_of rfl) c_of (ix_tup_nat (k := 0) rfl)) c_of (op_of (fld_legs (v_of rfl)) c_of rfl)) (h _)))) (ret_of c_of)
theorem str_second {i : Int} {b : PV} (h0 : 0 ≤ i) (h1 : i < L) (h : ∀ st, m_is_within [.p b, .p (.int (i + 1)), .p (.int (L : Int))] st = .ok (.p (.bl false)) st) (st : Sto) : m_is_stretch [.p (eLine L S), .p (.tup [.int i, b])] st = .ok (.p (.bl false)) st := by
  refine pure_rt (xs := [eLine L S, .tup [.int i, b]]) (st' := []) ?_ st
  unfold b_is_stretch
  have w1 : ∀ st, m_is_within [.p (.int i), .p (.int 0), .p (.int ((L : Int) - 1))] st = .ok (.p (.bl true)) st := fun st => by
    rw [is_within_int, decide_eq_true h0, decide_eq_true (by omega)]
    rfl
  refine (skip_of (or_of (a := false) (b := false) (not_of (b := true) (tst_of (call_of (two_of (v_of rfl) c_of) (row2 _ _ _)))) fun _ => not_of (b := true) (tst_of (call_of (three_of (ix_p (v_of rfl) c_of (ix_tup_nat (k := 0) rfl)) c_of (op_of (fld_legs (v_of rfl)) c_of rfl)) (w1 _))))).trans ?_
  exact ret_of (call_of (three_of (ix_p (v_of rfl) c_of (ix_tup_nat (k := 1) rfl)) (op_of (ix_p (v_of rfl) c_of (ix_tup_nat (k := 0) rfl)) c_of rfl) (fld_legs (v_of rfl))) (h _))
theorem or_f {ta tb : RT} {env : EE} {st st1 st2 : Sto} {b : Bool} (h1 : ta env st = .ok false st1) (h2 : tb env st1 = .ok b st2) : rOr ta tb env st = .ok b st2 := by
  unfold rOr
  rw [h1]
  exact h2
theorem rok_nat {k : Nat} (h : k ≤ 9) : Rok (.int (k : Int)) 1 0 := rok_of (by
  have : k = 0 ∨ k = 1 ∨ k = 2 ∨ k = 3 ∨ k = 4 ∨ k = 5 ∨ k = 6 ∨ k = 7 ∨ k = 8 ∨ k = 9 := by omega
  rcases this with rfl | rfl | rfl | rfl | rfl | rfl | rfl | rfl | rfl | rfl <;> kernel_rfl)
theorem rok_two {a b : PV} {n m : Nat} (h1 : Rok a n m) (h2 : Rok b n m) : Rok (.tup [a, b]) (2 * n + 7) (m + 1) := (rok_tup (xs := [a, b]) (n := n) (m := m) (fun x hx => by
  simp only [List.mem_cons, List.mem_nil_iff, or_false] at hx
  rcases hx with rfl | rfl
  · exact h1
  · exact h2)).mono (by simp <;> omega) (Nat.le_refl _)
theorem forD {n i : Nat} {bd : RS} {I : NV → Sto → Prop} (hi : i < n) : ∀ (xs : List PV) (X : NV) (st : Sto), I X st → (∀ x ∈ xs, ∀ X st, I X st → ∃ X' st', I X' st' ∧ bd (EV n (up X i (some (.p x)))) st = .nx (EV n X') st') → ∃ X' st', I X' st' ∧ forGo (.nm i) bd xs (EV n X) st = .nx (EV n X') st'
  | [], X, st, h, _ => ⟨X, st, h, rfl⟩
  | x :: xs, X, st, h, hb => by
    obtain ⟨X1, st1, h1, e1⟩ := hb x List.mem_cons_self X st h
    obtain ⟨X2, st2, h2, e2⟩ := forD hi xs X1 st1 h1 fun y hy => hb y (List.mem_cons_of_mem _ hy)
    exact ⟨X2, st2, h2, (for_nx (set1X hi) e1).trans e2⟩
theorem forD2 {n i j : Nat} {bd : RS} {I : NV → Sto → Prop} (hi : i < n) (hj : j < n) : ∀ (xs : List (PV × PV)) (X : NV) (st : Sto), I X st → (∀ x ∈ xs, ∀ X st, I X st → ∃ X' st', I X' st' ∧ bd (EV n (up (up X i (some (.p x.1))) j (some (.p x.2)))) st = .nx (EV n X') st') → ∃ X' st', I X' st' ∧ forGo (.cons (.nm i) (.cons (.nm j) .nil)) bd (xs.map fun x => .tup [x.1, x.2]) (EV n X) st = .nx (EV n X') st'
  | [], X, st, h, _ => ⟨X, st, h, rfl⟩
  | x :: xs, X, st, h, hb => by
    obtain ⟨X1, st1, h1, e1⟩ := hb x List.mem_cons_self X st h
    obtain ⟨X2, st2, h2, e2⟩ := forD2 hi hj xs X1 st1 h1 fun y hy => hb y (List.mem_cons_of_mem _ hy)
    exact ⟨X2, st2, h2, (for_nx (set2X hi hj) e1).trans e2⟩
theorem flat_rep (x : PV) : ∀ n : Nat, (List.replicate n [x]).flatten = List.replicate n x
  | 0 => rfl
  | n + 1 => by rw [List.replicate_succ, List.flatten_cons, flat_rep x n, List.replicate_succ]; rfl
theorem whole_non (st : Sto) : m_is_whole [.p .non] st = .ok (.p (.bl false)) st := pure_rt (xs := [.non]) (st' := []) rfl st
theorem wf_int (i a b : Int) (hn : ¬ (a ≤ i ∧ i ≤ b)) (st : Sto) : m_is_within [.p (.int i), .p (.int a), .p (.int b)] st = .ok (.p (.bl false)) st := by
  rw [is_within_int]
  by_cases h1 : a ≤ i
  · rw [decide_eq_true h1, decide_eq_false (fun h2 => hn ⟨h1, h2⟩)]; rfl
  · rw [decide_eq_false h1]; rfl
theorem ne_nil0 : pNe (.lst []) (.lst []) = some (.bl false) := by kernel_rfl
theorem ne_nil_of {env : EE} {st st1 : Sto} {r : RX} {ns : List Nat} (h : r env st = .ok (.p (.lst (ns.map eN))) st1) : r2 pNe r (rLst rNil) env st = .ok (.p (.bl (!ns.isEmpty))) st1 := by
  refine op_of h (lst_of nil_of rfl) ?_
  rw [show ∀ l : List PV, pNe (.lst l) (.lst []) = (pEqD (.lst l) (.lst [])).map (fun b => PV.bl (!b)) from fun _ => rfl, eq_data (dOk_lst (n := 0) ?_ (by decide)) (dOk_lst (n := 0) (by rw [PV.deps]) (by decide))]
  · show some (PV.bl (!PV.eqv _ _)) = _
    congr 2
    rw [PV.eqv]
    cases ns <;> simp [PV.eqvs]
  · rw [deps_const (n := 0) (fun _ => by unfold eN; rw [PV.dep])]
    simp
end K
end S_B08
section S_E1
open PySem PySem.Spec PyProof.Rows L2 Ev
namespace K
/-! ### all seatings -/
def extRow (asks : List Sp2) (seats k : Nat) (row : List Nat) : List (List Nat) := ((List.range seats).filter fun s => apartB (asks.take (k + 1)) (row ++ [s])).map fun s => row ++ [s]
def seatN (asks : List Sp2) (seats : Nat) : Nat → List (List Nat)
  | 0 => [[]]
  | k + 1 => (seatN asks seats k).flatMap (extRow asks seats k)
theorem extRow_len (asks : List Sp2) (seats k : Nat) (row : List Nat) : (extRow asks seats k row).length ≤ seats := by
  unfold extRow
  rw [List.length_map]
  have := List.length_filter_le (fun s => apartB (asks.take (k + 1)) (row ++ [s])) (List.range seats)
  rw [List.length_range] at this
  exact this
theorem flatMap_len {α β : Type} {f : α → List β} {n : Nat} (h : ∀ x, (f x).length ≤ n) : ∀ xs : List α, (xs.flatMap f).length ≤ xs.length * n
  | [] => by simp
  | x :: xs => by
    rw [List.flatMap_cons, List.length_append, List.length_cons, Nat.add_mul]
    have := h x
    have := flatMap_len h xs
    omega
theorem seatN_row (asks : List Sp2) (seats : Nat) : ∀ k, ∀ row ∈ seatN asks seats k, row.length = k
  | 0, row, h => by
    have := List.mem_singleton.mp (show row ∈ [[]] from h)
    rw [this]; rfl
  | k + 1, row, h => by
    obtain ⟨r, hr, h⟩ := List.mem_flatMap.mp (show row ∈ (seatN asks seats k).flatMap (extRow asks seats k) from h)
    obtain ⟨s, _, rfl⟩ := List.mem_map.mp h
    rw [List.length_append, seatN_row asks seats k r hr]
    rfl
theorem seatN_len (asks : List Sp2) {seats : Nat} (hs : seats ≤ 4) : ∀ k, (seatN asks seats k).length ≤ 4 ^ k
  | 0 => by simp [seatN]
  | k + 1 => by
    have h1 := flatMap_len (extRow_len asks seats k) (seatN asks seats k)
    have h2 := seatN_len asks hs k
    show ((seatN asks seats k).flatMap (extRow asks seats k)).length ≤ 4 ^ (k + 1)
    rw [Nat.pow_succ]
    exact Nat.le_trans h1 (Nat.mul_le_mul h2 hs)
theorem four_pow {k : Nat} (h : k ≤ 7) : 4 ^ k ≤ 16384 := Nat.le_trans (Nat.pow_le_pow_right (by decide) h) (by decide)
abbrev apF (F : MF) : Prop := ∀ (asks : List Sp2) (value : List Nat), value.length = asks.length → asks.length ≤ 1000 → ∀ st, F [.p (eAsk asks), .p (eNs value)] st = .ok (.p (.bl (apartB asks value))) st
abbrev rsLc (F : MF) : RX := rLc [6] (rRange1 (rCons (rVar 1) rNil)) (.nm 6) (rTst (rCall (rArity 2 F) (rCons (rSl (rVar 0) rNoPart (rPart (r2 pAdd (rVar 3) (rC (.int 1))))) (rCons (r2 pAdd (rVar 5) (rTup (rCons (rVar 6) rNil))) rNil)))) (r2 pAdd (rVar 5) (rTup (rCons (rVar 6) rNil)))
abbrev rsIn (F : MF) : RS := sExpr (rBM isL bExtend (rVar 4) (rCons (rsLc F) rNil))
abbrev rsB (F : MF) : RS := sSeq (sAsg (rLstM rNil) (.nm 4)) (sSeq (sFor (rItems (rVar 2)) (.nm 5) (rsIn F)) (sPre 4 4 (sAsg (rVar 4) (.nm 2))))
abbrev rsF (F : MF) : RS := sSeq (sAsg (rLst (rCons (rTup rNil) rNil)) (.nm 2)) (sSeq (sFor (rRange1 (rCons (rCB bLen (rCons (rVar 0) rNil)) rNil)) (.nm 3) (rsB F)) (sRet (rVar 2)))
theorem reseat_eq : b_reseatings = rsF m_are_apart := rfl
theorem law_seat_eq : b__law_seatings = rsF m__law_apart := rfl
theorem extend_ok {st st' : Sto} {n : Nat} {ys zs : List PV} (h : st[n]? = some (some (.lst false ys))) (hl : ys.length + zs.length ≤ 16777216) (hs : st.set n (some (.lst false (ys ++ zs))) = st') : bExtend [.ref n, .p (.lst zs)] st = .ok (.p .non) st' := by
  unfold bExtend
  dsimp only
  rw [h]
  dsimp only
  rw [if_pos hl, hs]
section
variable {F : MF} (hF : apF F) {asks : List Sp2} {seats : Nat} (hs : seats ≤ 4) (h7 : asks.length ≤ 7)
include hF hs h7
theorem rs_lc {k : Nat} (hk : k < asks.length) {row : List Nat} (hr : row.length = k) {X : NV} {st : Sto} (h0 : X 0 = some (.p (eAsk asks))) (h1 : X 1 = some (.p (.int (seats : Int)))) (h3 : X 3 = some (.p (.int (k : Int)))) (h5 : X 5 = some (.p (eNs row))) :
    rsLc F (EV 7 X) st = .ok (.p (.lst ((extRow asks seats k row).map eNs))) st := by
  have ha : ∀ s : Nat, pAdd (eNs row) (.tup [eN s]) = some (eNs (row ++ [s])) := fun s => by
    show pAdd (.tup (row.map eN)) (.tup [eN s]) = _
    rw [add_tup (by simp; omega)]
    unfold eNs
    rw [List.map_append]
    rfl
  refine Eq.trans (lcX (n := 7) (i := 6) (X := X) (List.range seats) (fun k : Nat => PV.int (k : Int)) (fun s => apartB (asks.take (k + 1)) (row ++ [s])) (fun s => eNs (row ++ [s])) (range1_of (one_of (vX h1)) (by omega)) (fun s _ => ⟨tst_of (call_of (two_of (sl_of (vX h0) nopart_of (part_of (op_of (vX h3) c_of (add_one k))) (c := eAsk (asks.take (k + 1))) ?_) (op_of (vX h5) (tup_of (one_of (vX rfl)) rfl) (ha s))) (hF _ _ ?_ ?_ _)), fun _ => op_of (vX h5) (tup_of (one_of (vX rfl)) rfl) (ha s)⟩) (by simp; omega)) ?_
  · show some (PV.tup (cutP (asks.map eSp) none (some ((k + 1 : Nat) : Int)))) = _
    rw [cut_to, ← List.map_take]
    rfl
  · rw [List.length_append, List.length_take]; simp; omega
  · rw [List.length_take]; omega
  · unfold extRow
    rw [List.map_map]
    rfl
theorem rs_in {k : Nat} (hk : k < asks.length) {st : Sto} : ∀ (rs : List (List Nat)) (acc : List (List Nat)) (X : NV), (∀ r ∈ rs, r.length = k) → X 0 = some (.p (eAsk asks)) → X 1 = some (.p (.int (seats : Int))) → X 3 = some (.p (.int (k : Int))) → X 4 = some (.ref st.length) → acc.length + rs.length * 4 ≤ 1000000 →
    ∃ X', Fr [0, 1, 2, 3, 4] X X' ∧ forGo (.nm 5) (rsIn F) (rs.map eNs) (EV 7 X) (st ++ [some (.lst false (acc.map eNs))]) = .nx (EV 7 X') (st ++ [some (.lst false ((acc ++ rs.flatMap (extRow asks seats k)).map eNs))])
  | [], acc, X, _, _, _, _, _, _ => ⟨X, Fr.rfl', by rw [List.flatMap_nil, List.append_nil]; rfl⟩
  | r :: rs, acc, X, hr, h0, h1, h3, h4, hl => by
    have hlen := extRow_len asks seats k r
    rw [List.length_cons] at hl
    obtain ⟨X', f, e⟩ := rs_in hk rs (acc ++ extRow asks seats k r) (up X 5 (some (.p (eNs r)))) (fun q hq => hr q (List.mem_cons_of_mem _ hq)) h0 h1 h3 h4 (by rw [List.length_append]; omega)
    refine ⟨X', (Fr.rfl'.up 5 _).trans f, ?_⟩
    rw [List.map_cons, List.flatMap_cons, ← List.append_assoc]
    refine (for_nx set1X (expr_of (bm_of (vX (i := 4) (X := up X 5 (some (.p (eNs r)))) h4) ?_ (one_of (rs_lc hF hs h7 hk (hr r List.mem_cons_self) (X := up X 5 (some (.p (eNs r)))) h0 h1 h3 rfl)) (extend_ok (get_new _ _) ?_ (set_new _ _ _))))).trans ?_
    · show (match seqOf (st ++ [some (.lst false (acc.map eNs))]) (.ref st.length) with
        | some (true, _) => true
        | _ => false) = true
      rw [seq_ref (get_new _ _)]
    · rw [List.length_map, List.length_map]; omega
    · rw [← List.map_append]
      exact e
theorem rs_go : ∀ (n k : Nat) (X : NV) (st : Sto), k + n = asks.length → X 0 = some (.p (eAsk asks)) → X 1 = some (.p (.int (seats : Int))) → X 2 = some (.p (.lst ((seatN asks seats k).map eNs))) →
    ∃ X' st', X' 2 = some (.p (.lst ((seatN asks seats asks.length).map eNs))) ∧ forGo (.nm 3) (rsB F) ((List.range' k n).map fun k : Nat => PV.int (k : Int)) (EV 7 X) st = .nx (EV 7 X') st'
  | 0, k, X, st, hk, h0, h1, h2 => by
    obtain rfl : k = asks.length := by omega
    exact ⟨X, st, h2, rfl⟩
  | n + 1, k, X, st, hk, h0, h1, h2 => by
    have hb := seatN_len asks hs k
    have h47 := four_pow (k := k) (by omega)
    let X1 := up (up X 3 (some (.p (.int (k : Int))))) 4 (some (.ref st.length))
    obtain ⟨X2, f, e⟩ := rs_in hF hs h7 (k := k) (by omega) (st := st) (seatN asks seats k) [] X1 (seatN_row asks seats k) h0 h1 rfl rfl (by simp; omega)
    have hz : frzV 4 (st ++ [some (.lst false (([] ++ (seatN asks seats k).flatMap (extRow asks seats k)).map eNs))]) (.ref st.length) = some (.lst ((seatN asks seats (k + 1)).map eNs), st ++ [none]) := by
      show (match (st ++ [some (Ob.lst false (([] ++ (seatN asks seats k).flatMap (extRow asks seats k)).map eNs))])[st.length]? with
        | some (some (.lst false xs)) => some (PV.lst xs, (st ++ [some (Ob.lst false (([] ++ (seatN asks seats k).flatMap (extRow asks seats k)).map eNs))]).set st.length none)
        | some (some (.dct nk false ks us)) => some (.dct nk ks us, (st ++ [some (Ob.lst false (([] ++ (seatN asks seats k).flatMap (extRow asks seats k)).map eNs))]).set st.length none)
        | some (some (.ins c fs us)) => (frzVs 3 ((st ++ [some (Ob.lst false (([] ++ (seatN asks seats k).flatMap (extRow asks seats k)).map eNs))]).set st.length none) us).map fun (ys, st') => (.ins c fs ys, st')
        | _ => none) = _
      rw [get_new]
      dsimp only
      rw [set_new]
      rfl
    have h24 : X2 4 = some (.ref st.length) := f.at rfl
    let X3 := up (up X2 4 (some (.p (.lst ((seatN asks seats (k + 1)).map eNs))))) 2 (some (.p (.lst ((seatN asks seats (k + 1)).map eNs))))
    have eb : rsB F (EV 7 (up X 3 (some (.p (.int (k : Int)))))) st = .nx (EV 7 X3) (st ++ [none]) := by
      refine then_of (asgX (v := .ref st.length) (st1 := st ++ [some (.lst false [])]) rfl) (then_of ((for_of (items_lst (vX (X := X1) (i := 2) (v := .p (.lst ((seatN asks seats k).map eNs))) h2))).trans e) ?_)
      rw [preX h24 hz]
      exact asgX (vX rfl)
    have g0 : X3 0 = some (.p (eAsk asks)) := f.at (i := 0) h0
    have g1 : X3 1 = some (.p (.int (seats : Int))) := f.at (i := 1) h1
    obtain ⟨X', st', h2', e'⟩ := rs_go n (k + 1) X3 (st ++ [none]) (by omega) g0 g1 rfl
    refine ⟨X', st', h2', ?_⟩
    rw [List.range'_succ, List.map_cons]
    exact (for_nx set1X eb).trans e'
theorem rs_ok (st : Sto) : liftP (pureOf (fnM 7 (rsF F))) [.p (eAsk asks), .p (.int (seats : Int))] st = .ok (.p (.lst ((seatN asks seats asks.length).map eNs))) st := by
  let X0 : NV := fun i => (Ev.envOf 7 ([eAsk asks, .int (seats : Int)].map VV.p)).getD i none
  have e0 : Ev.envOf 7 ([eAsk asks, .int (seats : Int)].map VV.p) = EV 7 X0 := (EV_of rfl).symm
  obtain ⟨X', st', h2, e⟩ := rs_go hF hs h7 asks.length 0 (up X0 2 (some (.p (.lst [.tup []])))) [] (by omega) rfl rfl rfl
  have hlen : rCB bLen (rCons (rVar 0) rNil) (EV 7 (up X0 2 (some (.p (.lst [.tup []]))))) [] = .ok (.p (.int (asks.length : Nat))) [] := cb_of (one_of (vX rfl)) (by rw [len_seq (b := false) rfl, List.length_map])
  refine pure_rt (xs := [eAsk asks, .int (seats : Int)]) (st' := st') ?_ st
  rw [e0]
  refine then_of (asgX (lst_of (ys := [.tup []]) (one_of (tup_of nil_of rfl)) rfl)) (then_of (e1 := EV 7 X') (st1 := st') (Eq.trans (for_of (range1_of (n := asks.length) (one_of hlen) (by omega))) ?_) (ret_of (vX h2)))
  rw [List.range_eq_range']
  exact e
end
/-! ### how many sit elsewhere -/
def chg (value row : List Nat) : Nat := ((List.range value.length).filter fun k => !decide (value.getD k 0 = row.getD k 0)).length
theorem changes_ok {value row : List Nat} (hl : value.length ≤ row.length) (h : value.length ≤ 1000) (st : Sto) : m_changes_of [.p (eNs value), .p (eNs row)] st = .ok (.p (.int (chg value row : Nat))) st := by
  refine pure_rt (xs := [eNs value, eNs row]) (st' := []) ?_ st
  unfold b_changes_of
  refine ret_of (cb_of (one_of (lc_of (List.range value.length) (fun k : Nat => PV.int (k : Int)) (fun k => !decide (value.getD k 0 = row.getD k 0)) eN (range1_of (one_of (cb_of (one_of (v_of rfl)) (by rw [len_seq (b := false) rfl, List.length_map]))) (by omega)) (lt rfl) (fun k hk => ⟨tst_of (op_of (ixN (v_of rfl) (v_of rfl) (at_val (List.mem_range.mp hk))) (ixN (v_of rfl) (v_of rfl) (at_val (by have := List.mem_range.mp hk; omega))) (pNe_nat _ _)), fun _ => v_of rfl⟩) (by simp; omega))) ?_)
  rw [len_seq (b := true) rfl, List.length_map]
  rfl
/-- a row with how many change -/
def eChg (value row : List Nat) : PV := .tup [.int (chg value row : Nat), eNs row]
def minR (value : List Nat) (rows : List (List Nat)) : PV := match rows.map (eChg value) with
  | n :: ns => minF n ns
  | [] => .non
theorem sameShs_ns : ∀ (a b : List Nat), a.length = b.length → sameShs (a.map eN) (b.map eN) = true
  | [], [], _ => rfl
  | x :: a, y :: b, h => by
    show (sameSh (eN x) (eN y) && sameShs (a.map eN) (b.map eN)) = true
    rw [sameShs_ns a b (by simpa using h)]
    rfl
  | [], _ :: _, h => by simp at h
  | _ :: _, [], h => by simp at h
theorem min_ok {value : List Nat} {rows : List (List Nat)} {k : Nat} (hr : ∀ r ∈ rows, r.length = k) (hn : rows ≠ []) {env : EE} {st : Sto} {r : RX} (h : r env st = .ok (.p (.lst (rows.map (eChg value)))) st) : rCB bMinD (rCons r rNil) env st = .ok (.p (minR value rows)) st := by
  refine cb_of (one_of h) ?_
  cases rows with
  | nil => exact absurd rfl hn
  | cons x rows =>
    have h1 : oneSh ((x :: rows).map (eChg value)) = true := oneSh_map fun a ha b hb => by
      show sameSh (.tup [.int _, eNs a]) (.tup [.int _, eNs b]) = true
      show (true && (sameShs (a.map eN) (b.map eN) && true)) = true
      rw [sameShs_ns a b ((hr a ha).trans (hr b hb).symm)]
      rfl
    have h2 : ((x :: rows).map (eChg value)).all (fun x => decide ((encD x).depth ≤ 8)) = true := by
      rw [List.all_map, List.all_eq_true]
      intro a ha
      have hd : ∃ n, (eChg value a).dep = some n ∧ n ≤ 2 := by
        have : (eNs a).dep = some 1 := by
          unfold eNs
          rw [PV.dep, deps_const (n := 0) (fun _ => by unfold eN; rw [PV.dep])]
          simp
        refine ⟨_, ?_, Nat.le_refl _⟩
        unfold eChg
        rw [PV.dep, PV.deps, PV.deps, PV.deps, PV.dep, this]
        rfl
      obtain ⟨n, e, hn⟩ := hd
      show decide ((encD (eChg value a)).depth ≤ 8) = true
      rw [encD_dep e]
      exact decide_eq_true (by omega)
    show (if oneSh ((x :: rows).map (eChg value)) = true ∧ ((x :: rows).map (eChg value)).all (fun x => decide ((encD x).depth ≤ 8)) = true then Res.ok (VV.p (minF (eChg value x) (rows.map (eChg value)))) st else .no) = _
    rw [if_pos ⟨h1, h2⟩]
    rfl
theorem minR_pl {value : List Nat} {rows : List (List Nat)} {k : Nat} (hk : k ≤ 1000) (hr : ∀ r ∈ rows, r.length = k) : Pl 6 (minR value rows) := by
  cases rows with
  | nil => exact .non _
  | cons x rows =>
    have := minF_mem (eChg value x) (rows.map (eChg value))
    obtain ⟨a, ha, e⟩ := List.mem_map.mp (show minF (eChg value x) (rows.map (eChg value)) ∈ (x :: rows).map (eChg value) from this)
    show Pl 6 (minF (eChg value x) (rows.map (eChg value)))
    rw [← e]
    refine .tup 5 _ (fun z hz => ?_) (by simp)
    simp only [List.mem_cons, List.mem_nil_iff, or_false] at hz
    rcases hz with rfl | rfl
    · exact .int _ _
    · exact .tup 4 _ (fun y hy => by
        obtain ⟨k, _, rfl⟩ := List.mem_map.mp hy
        exact .int _ _) (by rw [List.length_map, hr a ha]; omega)
end K
end S_E1
section S_B08b
open PySem PySem.Spec PyProof.Rows L2 Ev
namespace K
theorem dep_sp (p : Nat × Nat) : (eSp p).dep = some 1 := by simp [eSp, PV.dep, PV.deps]
theorem eq_nilt {l : List (Nat × Nat)} (h : l ≠ []) : pEq (.tup (l.map eSp)) (.tup []) = some (.bl false) := by
  show ((pEqD (.tup (l.map eSp)) (.tup []) : Option Bool).map PV.bl) = _
  rw [eq_data (dOk_tup (deps_const dep_sp l) (by split <;> omega)) rfl]
  cases l with
  | nil => exact absurd rfl h
  | cons p l => rfl
theorem cut_init {xs : List PV} (x : PV) : cutP (xs ++ [x]) none (some (-1)) = xs := by
  unfold cutP
  show ((xs ++ [x]).drop 0).take (HT.sIx _ _ (some (-1)) - 0) = xs
  have : HT.sIx (xs ++ [x]).length (xs ++ [x]).length (some (-1)) = xs.length := by
    show (if (-1 : Int) < 0 then ((-1 : Int) + ((xs ++ [x]).length : Int)).toNat else min (-1 : Int).toNat (xs ++ [x]).length) = _
    rw [if_pos (by omega), List.length_append]
    simp
    omega
  rw [this, List.drop_zero, Nat.sub_zero, List.take_left']
  rfl
end K
end S_B08b
section S_E2
open PySem PySem.Spec PyProof.Rows L2 Ev
namespace K
abbrev fm0 : RS := (sExpr (rCall (rArity 2 (m_require_asked)) (rCons (rVar 0) (rCons (rVar 1) rNil))))
abbrev fm1 : RS := (sIf (rTst (r2 pGt (rCB bLen (rCons (rVar 1) rNil)) (rC (.int 7)))) (sRaise 3 ["place"] (rCons (rC .non) rNil)) sNil)
abbrev fm2 : RS := (sIf (rNot (rTst (rCall (rArity 3 (m_is_within)) (rCons (rVar 3) (rCons (rC (.int 1)) (rCons (rC (.int 4)) rNil)))))) (sRaise 1 ["value"] (rCons (rVar 3) rNil)) sNil)
abbrev fm3 : RS := (sIf (rOr (rTst (r2 pEq (rVar 1) (rTup rNil))) (rNot (rTst (rCall (rArity 4 (m_is_seating)) (rCons (rVar 0) (rCons (rSl (rVar 1) rNoPart (rPart (r1 pNeg (rC (.int 1))))) (rCons (rVar 3) (rCons (rVar 2) rNil)))))))) (sRaise 1 ["value"] (rCons (rC .non) rNil)) sNil)
abbrev fm4 : RS := (sAsg (rLc [5] (rItems (rCall (rArity 2 (m_reseatings)) (rCons (rVar 1) (rCons (rVar 3) rNil)))) (.nm 5) rYes (rTup (rCons (rCall (rArity 2 (m_changes_of)) (rCons (rVar 2) (rCons (rVar 5) rNil))) (rCons (rVar 5) rNil)))) (.nm 4))
abbrev fm5 : RS := (sRet (rIf (rTst (r2 pNe (rVar 4) (rLst rNil))) (rCB bMinD (rCons (rVar 4) rNil)) (rC .non)))
theorem fm_eq : b_fewest_moves = sSeq fm0 (sSeq fm1 (sSeq fm2 (sSeq fm3 (sSeq fm4 fm5)))) := rfl
theorem dep_chg (value row : List Nat) : (eChg value row).dep = some 2 := by
  have : (eNs row).dep = some 1 := by
    unfold eNs
    rw [PV.dep, deps_const (n := 0) (fun _ => by unfold eN; rw [PV.dep])]
    simp
  unfold eChg
  rw [PV.dep, PV.deps, PV.deps, PV.deps, PV.dep, this]
  rfl
theorem ne_chg (value : List Nat) (rows : List (List Nat)) : pNe (.lst (rows.map (eChg value))) (.lst []) = some (.bl (!rows.isEmpty)) := by
  have hd : PV.deps (rows.map (eChg value)) = some (if rows = [] then 0 else 2) := deps_const (n := 2) (dep_chg value) rows
  rw [show ∀ l : List PV, pNe (.lst l) (.lst []) = (pEqD (.lst l) (.lst [])).map (fun b => PV.bl (!b)) from fun _ => rfl, eq_data (dOk_lst hd (by split <;> decide)) (dOk_lst (n := 0) (by rw [PV.deps]) (by decide))]
  show some (PV.bl (!PV.eqv _ _)) = _
  congr 2
  rw [PV.eqv]
  cases rows <;> simp [PV.eqvs]
/-- the least row, or none -/
theorem least_of {value : List Nat} {rows : List (List Nat)} {k : Nat} (hr : ∀ r ∈ rows, r.length = k) {i : Nat} {env : EE} {st : Sto} (h : env[i]? = some (some (.p (.lst (rows.map (eChg value)))))) : rIf (rTst (r2 pNe (rVar i) (rLst rNil))) (rCB bMinD (rCons (rVar i) rNil)) (rC .non) env st = .ok (.p (minR value rows)) st := by
  refine if_of (b := !rows.isEmpty) (tst_of (op_of (v_of h) (lst_of nil_of rfl) (ne_chg _ _))) (fun e => min_ok hr (fun z => by rw [z] at e; cases e) (v_of h)) fun e => ?_
  have e : rows = [] := by simpa using e
  rw [e]
  rfl
section
variable {L S : Nat} {kept : List Sp2} {p : Sp2} (hw : ∀ q ∈ kept ++ [p], q.1 < q.2 ∧ q.2 ≤ L) (h7 : kept.length ≤ 6)
include hw h7
theorem hwk : ∀ q ∈ kept, q.1 < q.2 ∧ q.2 ≤ L := fun q hq => hw q (List.mem_append_left _ hq)
theorem fm_go {v n : PV} {r : SRes} (h : sSeq fm2 (sSeq fm3 (sSeq fm4 fm5)) (envOf 6 ([eLine L S, eAsk (kept ++ [p]), v, n].map VV.p)) [] = r) : b_fewest_moves (envOf 6 ([eLine L S, eAsk (kept ++ [p]), v, n].map VV.p)) [] = r := by
  rw [fm_eq]
  refine then_of (expr_of (call_of (two_of (v_of rfl) (v_of rfl)) (rq_ok hw (by rw [List.length_append]; simp; omega) _))) ((skip_of (tst_of (op_of (cb_of (one_of (v_of rfl)) (len_seq (b := false) rfl)) c_of ?_))).trans h)
  rw [List.length_map]
  refine (pGt_nat _ 7).trans ?_
  rw [decide_eq_false (by rw [List.length_append]; simp; omega)]
theorem fm_weak {v n : PV} (hn : ∀ st, m_is_within [.p n, .p (.int 1), .p (.int 4)] st = .ok (.p (.bl false)) st) (st : Sto) : m_fewest_moves [.p (eLine L S), .p (eAsk (kept ++ [p])), .p v, .p n] st = .ex c_BadNumber (bNum n) st := by
  refine pure_ex (xs := [eLine L S, eAsk (kept ++ [p]), v, n]) (e' := envOf 6 ([eLine L S, eAsk (kept ++ [p]), v, n].map VV.p)) (st' := []) (fm_go hw h7 ?_) st
  exact seq_ex (sif_ex (not_of (b := false) (tst_of (call_of (three_of (v_of rfl) c_of c_of) (hn _)))) (raise_of (ys := [n]) (one_of (v_of rfl)) rfl rfl))
theorem fm3_c {v : PV} {seats : Nat} {b : Bool} (hb : ∀ st, m_is_seating [.p (eLine L S), .p (eAsk kept), .p (.int (seats : Int)), .p v] st = .ok (.p (.bl b)) st) :
    (rOr (rTst (r2 pEq (rVar 1) (rTup rNil))) (rNot (rTst (rCall (rArity 4 (m_is_seating)) (rCons (rVar 0) (rCons (rSl (rVar 1) rNoPart (rPart (r1 pNeg (rC (.int 1))))) (rCons (rVar 3) (rCons (rVar 2) rNil)))))))) (envOf 6 ([eLine L S, eAsk (kept ++ [p]), v, .int (seats : Int)].map VV.p)) [] = .ok (!b) [] := by
  refine or_f (tst_of (op_of (v_of rfl) (tup_of nil_of rfl) (eq_nilt (by simp)))) (not_of (tst_of (call_of (cons_of (v_of rfl) (three_of (sl_of (v_of rfl) nopart_of (part_of (un_of c_of rfl)) (c := eAsk kept) ?_) (v_of rfl) (v_of rfl))) (hb _))))
  show some (PV.tup (cutP ((kept ++ [p]).map eSp) none (some (-1)))) = _
  rw [List.map_append, List.map_cons, List.map_nil, cut_init]
  rfl
theorem fm_odd {v : PV} {seats : Nat} (h1 : 1 ≤ seats) (h4 : seats ≤ 4) (hb : ∀ st, m_is_seating [.p (eLine L S), .p (eAsk kept), .p (.int (seats : Int)), .p v] st = .ok (.p (.bl false)) st) (st : Sto) : m_fewest_moves [.p (eLine L S), .p (eAsk (kept ++ [p])), .p v, .p (.int (seats : Int))] st = .ex c_BadNumber (bNum .non) st := by
  refine pure_ex (xs := [eLine L S, eAsk (kept ++ [p]), v, .int (seats : Int)]) (e' := envOf 6 ([eLine L S, eAsk (kept ++ [p]), v, .int (seats : Int)].map VV.p)) (st' := []) (fm_go hw h7 ?_) st
  refine (skip_of (not_of (b := true) (tst_of (call_of (three_of (v_of rfl) c_of c_of) (within_nat (a := 1) (c := 4) h1 h4 _))))).trans ?_
  exact seq_ex (sif_ex (fm3_c hw h7 hb) (raise_of (ys := [.non]) (one_of c_of) rfl rfl))
theorem fm_ok {value : List Nat} {seats : Nat} (h1 : 1 ≤ seats) (h4 : seats ≤ 4) (hl : value.length = kept.length) (hv : (value.all fun k => decide (k < seats)) = true) (hap : apartB kept value = true) (st : Sto) :
    m_fewest_moves [.p (eLine L S), .p (eAsk (kept ++ [p])), .p (eNs value), .p (.int (seats : Int))] st = .ok (.p (minR value (seatN (kept ++ [p]) seats (kept ++ [p]).length))) st := by
  have hb : ∀ st, m_is_seating [.p (eLine L S), .p (eAsk kept), .p (.int (seats : Int)), .p (eNs value)] st = .ok (.p (.bl true)) st := fun st => by
    rw [seating_ok (hwk hw h7) (by omega) (by omega) hl st, hv, hap]
    rfl
  refine pure_rt (xs := [eLine L S, eAsk (kept ++ [p]), eNs value, .int (seats : Int)]) (st' := []) (fm_go hw h7 ?_) st
  refine (skip_of (not_of (b := true) (tst_of (call_of (three_of (v_of rfl) c_of c_of) (within_nat (a := 1) (c := 4) h1 h4 _))))).trans ?_
  refine (skip_of (fm3_c hw h7 hb)).trans ?_
  have hrow := seatN_row (kept ++ [p]) seats (kept ++ [p]).length
  have hlen := seatN_len (kept ++ [p]) h4 (kept ++ [p]).length
  have hpw := four_pow (k := (kept ++ [p]).length) (by rw [List.length_append]; simp; omega)
  refine then_of (asg_nm (lc_map (seatN (kept ++ [p]) seats (kept ++ [p]).length) eNs (eChg value) (items_lst (call_of (two_of (v_of rfl) (v_of rfl)) (rs_ok (fun asks value hl h st => are_apart_ok hl h st) h4 (by rw [List.length_append]; simp; omega) _))) (lt rfl) (fun row hr => tup_of (two_of (call_of (two_of (v_of rfl) (v_of rfl)) (changes_ok (by rw [hrow row hr, List.length_append, hl]; omega) (by omega) _)) (v_of rfl)) rfl) (by omega)) (lt rfl)) ?_
  exact ret_of (least_of hrow rfl)
end
theorem fm_ex {l a v n : PV} {c : Nat} {us : List PV} (h : ∀ st, m_require_asked [.p l, .p a] st = .ex c us st) (st : Sto) : m_fewest_moves [.p l, .p a, .p v, .p n] st = .ex c us st := by
  refine pure_ex (xs := [l, a, v, n]) (e' := envOf 6 ([l, a, v, n].map VV.p)) (st' := []) ?_ st
  rw [fm_eq]
  exact seq_ex (expr_ex (call_exx (two_of (v_of rfl) (v_of rfl)) (h _)))
theorem fm_long {L S : Nat} {asks : List Sp2} (hw : ∀ q ∈ asks, q.1 < q.2 ∧ q.2 ≤ L) (h8 : 7 < asks.length) (h10 : asks.length ≤ 10) {v n : PV} (st : Sto) : m_fewest_moves [.p (eLine L S), .p (eAsk asks), .p v, .p n] st = .ex c_BadAsked (bAsked .non) st := by
  refine pure_ex (xs := [eLine L S, eAsk asks, v, n]) (e' := envOf 6 ([eLine L S, eAsk asks, v, n].map VV.p)) (st' := []) ?_ st
  rw [fm_eq]
  refine then_of (expr_of (call_of (two_of (v_of rfl) (v_of rfl)) (rq_ok hw h10 _))) (seq_ex (sif_ex (tst_of (op_of (cb_of (one_of (v_of rfl)) (len_seq (b := false) rfl)) c_of ?_)) (raise_of (ys := [.non]) (one_of c_of) rfl rfl)))
  rw [List.length_map]
  refine (pGt_nat _ 7).trans ?_
  rw [decide_eq_true h8]
theorem fm_empty {L S : Nat} {v : PV} {seats : Nat} (h1 : 1 ≤ seats) (h4 : seats ≤ 4) (st : Sto) : m_fewest_moves [.p (eLine L S), .p (.tup []), .p v, .p (.int (seats : Int))] st = .ex c_BadNumber (bNum .non) st := by
  refine pure_ex (xs := [eLine L S, .tup [], v, .int (seats : Int)]) (e' := envOf 6 ([eLine L S, .tup [], v, .int (seats : Int)].map VV.p)) (st' := []) ?_ st
  rw [fm_eq]
  refine then_of (expr_of (call_of (two_of (v_of rfl) (v_of rfl)) (rq_ok (L := L) (asks := []) (fun _ h => by cases h) (by decide) _))) ((skip_of (tst_of (op_of (cb_of (one_of (v_of rfl)) (len_seq (b := false) rfl)) c_of rfl))).trans ?_)
  refine (skip_of (not_of (b := true) (tst_of (call_of (three_of (v_of rfl) c_of c_of) (within_nat (a := 1) (c := 4) h1 h4 _))))).trans ?_
  exact seq_ex (sif_ex (or_of (a := true) (b := true) (tst_of (op_of (v_of rfl) (tup_of nil_of rfl) (by kernel_rfl))) fun z => by cases z) (raise_of (ys := [.non]) (one_of c_of) rfl rfl))
end K
end S_E2
section S_E3
open PySem PySem.Spec PyProof.Rows L2 Ev
namespace K
abbrev tt0 : RS := (sAsg (rLstM (rCons (rVar 0) (rCons (rC (.int 0)) (rCons (rC (.int 8181)) (rCons (rC (.int 0)) rNil))))) (.nm 1))
abbrev tt1i : RI := (rRange1 (rCons (rC (.int 3)) rNil))
abbrev tt1b0 : RS := (sAsg (rTup (rCons (r2 pAdd (rC (.int 1)) (rCall (rArity 2 (m__law_taken)) (rCons (rVar 1) (rCons (rC (.int 5)) rNil)))) (rCons (r2 pAdd (rC (.int 1)) (rCall (rArity 2 (m__law_taken)) (rCons (rVar 1) (rCons (rC (.int 4)) rNil)))) rNil))) (.cons (.nm 3) (.cons (.nm 4) .nil)))
abbrev tt1b1 : RS := (sAsg (rTup (rCons (rFrz 8 (rMake 14 (rArity 3 (m_Line___init__)) (rCons (rVar 3) (rCons (rC (.int 1)) rNil)))) (rCons (rCall (rArity 3 (m__law_asked)) (rCons (rVar 1) (rCons (rVar 3) (rCons (rCall (rArity 2 (m__law_pick)) (rCons (rVar 1) (rCons (rLst (rCons (rC (.int 4)) (rCons (rC (.int 6)) rNil))) rNil))) rNil)))) rNil))) (.cons (.nm 5) (.cons (.nm 6) .nil)))
abbrev tt1b2 : RS := (sAsg (rTup (rCons (rTup rNil) (rCons (rTup rNil) rNil))) (.cons (.nm 7) (.cons (.nm 8) .nil)))
abbrev tt1b3i : RI := (rItems (rVar 6))
abbrev tt1b3b0 : RS := (sAsg (rLc [11] (rRange1 (rCons (rVar 4) rNil)) (.nm 11) (rTst (rCall (rArity 2 (m__law_apart)) (rCons (r2 pAdd (rVar 8) (rTup (rCons (rVar 9) rNil))) (rCons (r2 pAdd (rVar 7) (rTup (rCons (rVar 11) rNil))) rNil)))) (rVar 11)) (.nm 10))
abbrev tt1b3b1 : RS := (sIf (rTst (r2 pNe (rVar 10) (rLst rNil))) (sAsg (rTup (rCons (r2 pAdd (rVar 8) (rTup (rCons (rVar 9) rNil))) (rCons (r2 pAdd (rVar 7) (rTup (rCons (rCall (rArity 2 (m__law_pick)) (rCons (rVar 1) (rCons (rVar 10) rNil))) rNil))) rNil))) (.cons (.nm 8) (.cons (.nm 7) .nil))) sNil)
abbrev tt1b3b : RS := (sSeq tt1b3b0 tt1b3b1)
abbrev tt1b3 : RS := sFor tt1b3i (.nm 9) tt1b3b
abbrev tt1b4 : RS := (sAsg (r2 pAdd (rVar 8) (rTup (rCons (rCall (rArity 2 (m__law_pick)) (rCons (rVar 1) (rCons (rCall (rArity 1 (m__law_all)) (rCons (rVar 3) rNil)) rNil))) rNil))) (.nm 12))
abbrev tt1b5 : RS := (sAsg (rLc [9] (rItems (rCall (rArity 2 (m__law_seatings)) (rCons (rVar 12) (rCons (rVar 4) rNil)))) (.nm 9) rYes (rTup (rCons (rCB bLen (rCons (rLc [14] (rRange1 (rCons (rCB bLen (rCons (rVar 7) rNil)) rNil)) (.nm 14) (rTst (r2 pNe (r2s pIx (rVar 7) (rVar 14)) (r2s pIx (rVar 9) (rVar 14)))) (rVar 14)) rNil)) (rCons (rVar 9) rNil)))) (.nm 13))
abbrev tt1b6 : RS := (sIf (rNot (rTst (rCall (rArity 2 (m__law_alike 6)) (rCons (rCall (rArity 4 (m_fewest_moves)) (rCons (rVar 5) (rCons (rVar 12) (rCons (rVar 7) (rCons (rVar 4) rNil))))) (rCons (rIf (rTst (r2 pNe (rVar 13) (rLst rNil))) (rCB bMinD (rCons (rVar 13) rNil)) (rC .non)) rNil))))) (sRet (rC (.bl false))) sNil)
abbrev tt1b7 : RS := (sAsg (rCall (rArity 2 (m__law_pick)) (rCons (rVar 1) (rCons (rLst (rCons (rC (.int 0)) (rCons (rC (.int 5)) (rCons (rC .non) (rCons (rC (.bl true)) rNil))))) rNil))) (.nm 15))
abbrev tt1b8 : RS := (sAsg (rCall (rArity 2 (m__law_pick)) (rCons (rVar 1) (rCons (rLst (rCons (rC .non) (rCons (rCB bList (rCons (rVar 7) rNil)) (rCons (r2 pAdd (rVar 7) (rTup (rCons (rC (.int 0)) rNil))) (rCons (rIf (rTst (r2 pNe (rVar 7) (rTup rNil))) (r2 pMul (rTup (rCons (rC (.int 9)) rNil)) (rCB bLen (rCons (rVar 7) rNil))) (rC (.int 1))) (rCons (rC (.int 7)) (rCons (r2 pMul (rTup (rCons (rC (.int 0)) rNil)) (r2 pAdd (rCB bLen (rCons (rVar 7) rNil)) (rC (.int 2)))) rNil))))))) rNil))) (.nm 16))
abbrev tt1b9 : RS := (sAsg (rLst (rCons (rTold inf (rCall (rArity 4 (m_fewest_moves)) (rCons (rVar 5) (rCons (rVar 12) (rCons (rVar 7) (rCons (rVar 15) rNil)))))) (rCons (rTold inf (rCall (rArity 4 (m_fewest_moves)) (rCons (rVar 5) (rCons (rVar 12) (rCons (rVar 16) (rCons (rVar 4) rNil)))))) (rCons (rTold inf (rCall (rArity 4 (m_fewest_moves)) (rCons (rVar 5) (rCons (rTup rNil) (rCons (rTup rNil) (rCons (rVar 4) rNil)))))) rNil)))) (.nm 17))
abbrev tt1b10 : RS := (sAsg (r2 pAdd (rVar 17) (rLst (rCons (rTold inf (rCall (rArity 4 (m_fewest_moves)) (rCons (rVar 5) (rCons (r2 pMul (rTup (rCons (rTup (rCons (rC (.int 0)) (rCons (rC (.int 1)) rNil))) rNil)) (rC (.int 8))) (rCons (rC (.int 1)) (rCons (r1 pNeg (rC (.int 1))) rNil)))))) (rCons (rTold inf (rCall (rArity 4 (m_fewest_moves)) (rCons (rVar 5) (rCons (rC .non) (rCons (rC (.int 1)) (rCons (r1 pNeg (rC (.int 1))) rNil)))))) rNil)))) (.nm 17))
abbrev tt1b11 : RS := (sAsg (r2 pAdd (rVar 17) (rLst (rCons (rTold inf (rCall (rArity 4 (m_fewest_moves)) (rCons (rVar 5) (rCons (r2 pAdd (rVar 12) (rTup (rCons (rTup (rCons (rC (.int 0)) (rCons (rC (.int 0)) rNil))) rNil))) (rCons (rVar 7) (rCons (rVar 4) rNil)))))) rNil))) (.nm 17))
abbrev tt1b12 : RS := (sAsg (rLst (rCons (rTup (rCons (rC (.str "BadNumber")) (rCons (rVar 15) rNil))) (rCons (rTup (rCons (rC (.str "BadNumber")) (rCons (rC .non) rNil))) (rCons (rTup (rCons (rC (.str "BadNumber")) (rCons (rC .non) rNil))) (rCons (rTup (rCons (rC (.str "BadAsked")) (rCons (rC .non) rNil))) (rCons (rTup (rCons (rC (.str "BadAsked")) (rCons (rC .non) rNil))) (rCons (rTup (rCons (rC (.str "BadAsked")) (rCons (rCB bLen (rCons (rVar 12) rNil)) rNil))) rNil))))))) (.nm 18))
abbrev tt1b13 : RS := (sIf (rNot (rTst (rCall (rArity 2 (m__law_same)) (rCons (rVar 17) (rCons (rVar 18) rNil))))) (sRet (rC (.bl false))) sNil)
abbrev tt1b : RS := (sSeq tt1b0 (sSeq tt1b1 (sSeq tt1b2 (sSeq tt1b3 (sSeq tt1b4 (sSeq tt1b5 (sSeq tt1b6 (sSeq tt1b7 (sSeq tt1b8 (sSeq tt1b9 (sSeq tt1b10 (sSeq tt1b11 (sSeq tt1b12 tt1b13)))))))))))))
abbrev tt1 : RS := sFor tt1i (.nm 2) tt1b
abbrev tt2 : RS := (sRet (rC (.bl true)))
abbrev tt : RS := (sSeq tt0 (sSeq tt1 tt2))
theorem b_law_eq : b_law = tt := rfl
/-- what stays: row, legs, seats, line -/
structure Bs (L S : Nat) (X : NV) : Prop where
  r : X 1 = some (.ref 0)
  l : X 3 = some (.p (.int (L : Int)))
  s : X 4 = some (.p (.int (S : Int)))
  n : X 5 = some (.p (eLine L 1))
abbrev kp : List Nat := [0, 1, 2, 3, 4, 5]
theorem Bs.fr {L S : Nat} {X Y : NV} (h : Bs L S X) (f : Fr kp X Y) : Bs L S Y := ⟨f.at h.r, f.at h.l, f.at h.s, f.at h.n⟩
theorem Bs.up {L S : Nat} {X : NV} (h : Bs L S X) (i : Nat) (x : Option VV) (hi : i ∉ kp := by decide) : Bs L S (Ev.up X i x) := h.fr (Fr.rfl'.up i x hi)
/-- the stretches that sit, and where -/
structure Sit (L S : Nat) (kept : List Sp2) (value : List Nat) : Prop where
  w : ∀ q ∈ kept, q.1 < q.2 ∧ q.2 ≤ L
  len : value.length = kept.length
  lt : (value.all fun k => decide (k < S)) = true
  ap : apartB kept value = true
structure Bk (L S : Nat) (kept : List Sp2) (value : List Nat) (X : NV) : Prop extends Bs L S X where
  v : X 7 = some (.p (eNs value))
  k : X 8 = some (.p (eAsk kept))
section
variable {L S : Nat} {ns : List Int} {T st : Sto} {X : NV}
theorem addAsk {xs : List Sp2} {p : Sp2} (h : xs.length ≤ 1000) : pAdd (eAsk xs) (.tup [eSp p]) = some (eAsk (xs ++ [p])) := by
  show pAdd (.tup (xs.map eSp)) (.tup [eSp p]) = _
  rw [add_tup (by simp; omega)]
  unfold eAsk
  rw [List.map_append]
  rfl
theorem addNs {xs : List Nat} {p : Nat} (h : xs.length ≤ 1000) : pAdd (eNs xs) (.tup [eN p]) = some (eNs (xs ++ [p])) := by
  show pAdd (.tup (xs.map eN)) (.tup [eN p]) = _
  rw [add_tup (by simp; omega)]
  unfold eNs
  rw [List.map_append]
  rfl
theorem b3_turn (hS : S ≤ 4) (ht : Far T) (h : Dr ns T st) {kept : List Sp2} {value : List Nat} (b : Bk L S kept value X) (g : Sit L S kept value) (h6 : kept.length ≤ 6) {one : Sp2} (ho : one.1 < one.2 ∧ one.2 ≤ L) :
    ∃ kept' value' X' st', (Bk L S kept' value' X' ∧ Sit L S kept' value' ∧ kept'.length ≤ kept.length + 1) ∧ Dr ns T st' ∧ tt1b3b (EV 19 (Ev.up X 9 (some (.p (eSp one))))) st = .nx (EV 19 X') st' := by
  let fr := (List.range S).filter fun s => apartB (kept ++ [one]) (value ++ [s])
  let X1 := Ev.up X 9 (some (.p (eSp one)))
  have hl := g.len
  have s0 : tt1b3b0 (EV 19 X1) st = .nx (EV 19 (Ev.up X1 10 (some (.p (.lst (fr.map eN)))))) st :=
    asgX (lcX (n := 19) (i := 11) (X := X1) (List.range S) (fun k : Nat => PV.int (k : Int)) (fun s => apartB (kept ++ [one]) (value ++ [s])) eN (range1_of (one_of (vX b.s)) (by omega)) (fun s _ => ⟨tst_of (call_of (two_of (op_of (vX b.k) (tup_of (one_of (vX rfl)) rfl) (addAsk (by omega))) (op_of (vX b.v) (tup_of (one_of (vX rfl)) rfl) (addNs (by omega)))) (law_apart_ok (by simp [hl]) (by simp; omega) _)), fun _ => vX rfl⟩) (by simp; omega))
  by_cases hf : fr = []
  · refine ⟨kept, value, Ev.up X1 10 (some (.p (.lst (fr.map eN)))), st, ⟨⟨⟨b.r, b.l, b.s, b.n⟩, b.v, b.k⟩, g, by omega⟩, h, then_of s0 ((sif_false ((tst_of (ne_nil_of (vX rfl))).trans ?_)).trans rfl)⟩
    rw [hf]
    rfl
  · obtain ⟨z, st1, hz, h1, e1⟩ := pickD ht h (xs := fr.map eN) (by rw [List.length_map]; exact List.length_pos_iff.mpr hf) (by
      rw [List.length_map]
      have := List.length_filter_le (fun s => apartB (kept ++ [one]) (value ++ [s])) (List.range S)
      rw [List.length_range] at this
      exact Nat.lt_of_le_of_lt this (by omega))
    obtain ⟨s, hs, rfl⟩ := List.mem_map.mp hz
    have hs := List.mem_filter.mp hs
    let X2 := Ev.up X1 10 (some (.p (.lst (fr.map eN))))
    refine ⟨kept ++ [one], value ++ [s], Ev.up (Ev.up X2 8 (some (.p (eAsk (kept ++ [one]))))) 7 (some (.p (eNs (value ++ [s])))), st1, ⟨⟨⟨b.r, b.l, b.s, b.n⟩, rfl, rfl⟩, ⟨fun q hq => ?_, by simp [hl], ?_, hs.2⟩, by simp⟩, h1, then_of s0 ((sif_true ((tst_of (ne_nil_of (vX rfl))).trans ?_)).trans (asg2X (tup_of (two_of (op_of (vX b.k) (tup_of (one_of (vX rfl)) rfl) (addAsk (by omega))) (op_of (vX b.v) (tup_of (one_of (call_of (two_of (vX b.r) (vX rfl)) e1)) rfl) (addNs (by omega)))) rfl)))⟩
    · rcases List.mem_append.mp hq with hq | hq
      · exact g.w q hq
      · rw [List.mem_singleton.mp hq]; exact ho
    · rw [List.all_append, g.lt]
      simp only [List.all_cons, List.all_nil, Bool.and_true, Bool.true_and]
      exact decide_eq_true (List.mem_range.mp hs.1)
    · show Res.ok (!fr.isEmpty) _ = _
      have : fr.isEmpty = false := by
        rw [Bool.eq_false_iff]
        exact fun z => hf (List.isEmpty_iff.mp z)
      rw [this]
      rfl
theorem b3_loop (hS : S ≤ 4) (ht : Far T) : ∀ (as : List Sp2) (X : NV) (st : Sto) (kept : List Sp2) (value : List Nat), Dr ns T st → Bk L S kept value X → Sit L S kept value → kept.length + as.length ≤ 6 → (∀ q ∈ as, q.1 < q.2 ∧ q.2 ≤ L) →
    ∃ kept' value' X' st', (Bk L S kept' value' X' ∧ Sit L S kept' value' ∧ kept'.length ≤ 6) ∧ Dr ns T st' ∧ forGo (.nm 9) tt1b3b (as.map eSp) (EV 19 X) st = .nx (EV 19 X') st'
  | [], X, st, kept, value, h, b, g, hl, _ => ⟨kept, value, X, st, ⟨b, g, by simpa using hl⟩, h, rfl⟩
  | a :: as, X, st, kept, value, h, b, g, hl, ha => by
    rw [List.length_cons] at hl
    obtain ⟨k1, v1, X1, st1, ⟨b1, g1, l1⟩, h1, e1⟩ := b3_turn hS ht h b g (by omega) (ha a List.mem_cons_self)
    obtain ⟨k2, v2, X2, st2, q2, h2, e2⟩ := b3_loop hS ht as X1 st1 k1 v1 h1 b1 g1 (by omega) fun q hq => ha q (List.mem_cons_of_mem _ hq)
    refine ⟨k2, v2, X2, st2, q2, h2, ?_⟩
    rw [List.map_cons]
    exact (for_nx set1X e1).trans e2
/-! wrong arguments -/
def vals16 (value : List Nat) : List PV := [.non, .lst (value.map eN), .tup (value.map eN ++ [.int 0]), bif value.isEmpty then .int 1 else .tup (List.replicate value.length (.int 9)), .int 7, .tup (List.replicate (value.length + 2) (.int 0))]
def weaks : List PV := [.int 0, .int 5, .non, .bl true]
theorem vals16_no {kept : List Sp2} {value : List Nat} (g : Sit L S kept value) (h6 : kept.length ≤ 6) (hS : S ≤ 4) : ∀ v ∈ vals16 value, ∀ st, m_is_seating [.p (eLine L 1), .p (eAsk kept), .p (.int (S : Int)), .p v] st = .ok (.p (.bl false)) st := by
  intro v hv st
  have hl := g.len
  have hN : ∀ {v : PV}, bIsi isT [.p v, .p (.ty "tuple")] [] = .ok (.p (.bl false)) [] → ∀ st, m_is_seating [.p (eLine L 1), .p (eAsk kept), .p (.int (S : Int)), .p v] st = .ok (.p (.bl false)) st := fun {v} h st => seating_notup g.w (by omega) (by omega) h st
  simp only [vals16, List.mem_cons, List.mem_nil_iff, or_false] at hv
  rcases hv with rfl | rfl | rfl | rfl | rfl | rfl
  · exact hN rfl st
  · exact hN rfl st
  · exact seating_len g.w (by omega) (by omega) (by simp; omega) st
  · cases e : value.isEmpty with
    | true => exact hN rfl st
    | false =>
      have : 0 < value.length := by
        cases value with
        | nil => cases e
        | cons _ _ => simp
      refine seating_none g.w (by omega) (by omega) this hl (fun env h4 h2 => (andV_of (a := true) (b := false) (call_of (one_of (v_of h4)) (whole_int _ _)) fun _ => ch_of (u := true) (v := false) c_of (v_of h4) rfl fun _ => ⟨v_of h2, ?_⟩)) st
      exact (pLt_nat 9 S).trans (by rw [decide_eq_false (by omega)])
  · exact hN rfl st
  · exact seating_len g.w (by omega) (by omega) (by simp; omega) st
theorem weaks_no {w : PV} (hw : w ∈ weaks) : (∀ st, m_is_within [.p w, .p (.int 1), .p (.int 4)] st = .ok (.p (.bl false)) st) ∧ Rok w 10 2 := by
  simp only [weaks, List.mem_cons, List.mem_nil_iff, or_false] at hw
  rcases hw with rfl | rfl | rfl | rfl
  · exact ⟨wf_int _ _ _ (by omega), rok_of (by kernel_rfl)⟩
  · exact ⟨wf_int _ _ _ (by omega), rok_of (by kernel_rfl)⟩
  · exact ⟨within_non _ _, rok_of (by kernel_rfl)⟩
  · exact ⟨within_bl _ _ _, rok_of (by kernel_rfl)⟩
theorem ne_nilt (value : List Nat) : pNe (eNs value) (.tup []) = some (.bl (!value.isEmpty)) := by
  show ((pEqD (.tup (value.map eN)) (.tup []) : Option Bool).map (fun b => PV.bl (!b))) = _
  rw [eq_data (dOk_tup (deps_const (n := 0) (fun _ => by unfold eN; rw [PV.dep]) value) (by split <;> omega)) rfl]
  show some (PV.bl (!PV.eqv _ _)) = _
  congr 2
  rw [PV.eqv]
  cases value <;> simp [PV.eqvs]
theorem rok6 {xs : List PV} (h : ∀ x ∈ xs, Rok x 27 3) (hl : xs.length ≤ 10) : Rok (.lst xs) 400 4 := (rok_lst h).mono (by omega) (Nat.le_refl _)
end
end K
end S_E3
section S_E4
open PySem PySem.Spec PyProof.Rows L2 Ev
namespace K
abbrev kq : List Nat := [0, 1, 2, 3, 4, 5, 7, 8, 12]
structure Bm (L S : Nat) (kept : List Sp2) (value : List Nat) (p : Sp2) (X : NV) : Prop extends Bk L S kept value X where
  m : X 12 = some (.p (eAsk (kept ++ [p])))
theorem Bm.up {L S : Nat} {kept : List Sp2} {value : List Nat} {p : Sp2} {X : NV} (h : Bm L S kept value p X) (i : Nat) (x : Option VV) (hi : i ∉ kq := by decide) : Bm L S kept value p (Ev.up X i x) :=
  have f : Fr kq X (Ev.up X i x) := Fr.rfl'.up i x hi
  ⟨⟨⟨f.at h.r, f.at h.l, f.at h.s, f.at h.n⟩, f.at h.v, f.at h.k⟩, f.at h.m⟩
abbrev dw (w : PV) : PV := .tup [.str "BadNumber", w]
abbrev dn : PV := .tup [.str "BadNumber", .non]
abbrev da : PV := .tup [.str "BadAsked", .non]
abbrev dl (n : Nat) : PV := .tup [.str "BadAsked", .int (n : Int)]
section
variable {L S : Nat} {kept : List Sp2} {value : List Nat} {p : Sp2} {st : Sto} {X : NV} (b : Bm L S kept value p X) (g : Sit L S kept value) (hw : ∀ q ∈ kept ++ [p], q.1 < q.2 ∧ q.2 ≤ L) (k6 : kept.length ≤ 6) (h1 : 1 ≤ S) (h4 : S ≤ 4)
include b
theorem lenV {n : Nat} (hn : 7 < n := by exact Ev.lt rfl) : rCB bLen (rCons (rVar 7) rNil) (EV n X) st = .ok (.p (.int (value.length : Nat))) st := cb_of (one_of (vX b.v hn)) (by rw [len_seq (b := false) rfl, List.length_map])
include g hw k6 h1 h4
theorem s5_ok : tt1b5 (EV 19 X) st = .nx (EV 19 (Ev.up X 13 (some (.p (.lst ((seatN (kept ++ [p]) S (kept ++ [p]).length).map (eChg value))))))) st := by
  have hk7 : (kept ++ [p]).length ≤ 7 := by rw [List.length_append]; simp; omega
  have hrow := seatN_row (kept ++ [p]) S (kept ++ [p]).length
  have hlen := seatN_len (kept ++ [p]) h4 (kept ++ [p]).length
  have hpw := four_pow hk7
  have hvl := g.len
  refine asgX (lcmX (n := 19) (i := 9) (X := X) (seatN (kept ++ [p]) S (kept ++ [p]).length) eNs (eChg value) (items_lst (call_of (two_of (vX b.m) (vX b.s)) (rs_ok (fun asks value hl h st => law_apart_ok hl h st) h4 hk7 _))) (fun row hr => ?_) (by omega))
  have b1 := b.up 9 (some (.p (eNs row)))
  have e := lcX (n := 19) (i := 14) (X := Ev.up X 9 (some (.p (eNs row)))) (st := st) (st1 := st) (ri := rRange1 (rCons (rCB bLen (rCons (rVar 7) rNil)) rNil)) (t := rTst (r2 pNe (r2s pIx (rVar 7) (rVar 14)) (r2s pIx (rVar 9) (rVar 14)))) (r := rVar 14) (List.range value.length) (fun k : Nat => PV.int (k : Int)) (fun k => !decide (value.getD k 0 = row.getD k 0)) eN (range1_of (one_of (lenV b1)) (by omega)) (fun k hk => ⟨tst_of (op_of (ixN (vX (b1.up 14 _).v) (vX rfl) (at_val (List.mem_range.mp hk))) (ixN (vX rfl) (vX rfl) (at_val ?_)) (pNe_nat _ _)), fun _ => vX rfl⟩) (by simp; omega)
  · refine tup_of (two_of (cb_of (one_of e) (z := .p (.int (chg value row : Nat))) ?_) (vX rfl)) rfl
    rw [len_seq (b := true) rfl, List.length_map]
    rfl
  · have := List.mem_range.mp hk
    rw [hrow row hr, List.length_append]
    omega
theorem s6_ok (h13 : X 13 = some (.p (.lst ((seatN (kept ++ [p]) S (kept ++ [p]).length).map (eChg value))))) : tt1b6 (EV 19 X) st = .nx (EV 19 X) st := by
  have hrow := seatN_row (kept ++ [p]) S (kept ++ [p]).length
  have hk7 : (kept ++ [p]).length ≤ 7 := by rw [List.length_append]; simp; omega
  have hl := least_of (value := value) (i := 13) (env := EV 19 X) (st := st) hrow (by rw [EV_get (by decide), h13])
  have hp := alike_ok 6 (minR value (seatN (kept ++ [p]) S (kept ++ [p]).length)) (minR_pl (by omega) hrow) st
  exact (sif_false (not_of (b := true) (tst_of (call_of (two_of (call_of (cons_of (vX b.n) (three_of (vX b.m) (vX b.v) (vX b.s))) (fm_ok hw k6 h1 h4 g.len g.lt g.ap _)) hl) hp)))).trans rfl
omit b hw k6 h1 h4 in
theorem s8_items {ns : List Int} {T : Sto} (b : Bm L S kept value p X) (k6 : kept.length ≤ 6) : (rLst (rCons (rC .non) (rCons (rCB bList (rCons (rVar 7) rNil)) (rCons (r2 pAdd (rVar 7) (rTup (rCons (rC (.int 0)) rNil))) (rCons (rIf (rTst (r2 pNe (rVar 7) (rTup rNil))) (r2 pMul (rTup (rCons (rC (.int 9)) rNil)) (rCB bLen (rCons (rVar 7) rNil))) (rC (.int 1))) (rCons (rC (.int 7)) (rCons (r2 pMul (rTup (rCons (rC (.int 0)) rNil)) (r2 pAdd (rCB bLen (rCons (rVar 7) rNil)) (rC (.int 2)))) rNil))))))) (EV 19 X) st = .ok (.p (.lst (vals16 value))) st := by
  have hvl := g.len
  have e3 : rIf (rTst (r2 pNe (rVar 7) (rTup rNil))) (r2 pMul (rTup (rCons (rC (.int 9)) rNil)) (rCB bLen (rCons (rVar 7) rNil))) (rC (.int 1)) (EV 19 X) st = .ok (.p (bif value.isEmpty then .int 1 else .tup (List.replicate value.length (.int 9)))) st := by
    refine if_of (b := !value.isEmpty) (tst_of (op_of (vX b.v) (tup_of nil_of rfl) (ne_nilt value))) (fun e => ?_) fun e => ?_
    · have e : value.isEmpty = false := by simpa using e
      have hpos : 0 < value.length := by
        cases value with
        | nil => cases e
        | cons _ _ => simp
      rw [e]
      refine op_of (tup_of (one_of c_of) rfl) (lenV b) ?_
      rw [mul_tup (by omega) (by omega) (by simp), flat_rep]
      rfl
    · have e : value.isEmpty = true := by simpa using e
      rw [e]
      rfl
  have e5 : r2 pMul (rTup (rCons (rC (.int 0)) rNil)) (r2 pAdd (rCB bLen (rCons (rVar 7) rNil)) (rC (.int 2))) (EV 19 X) st = .ok (.p (.tup (List.replicate (value.length + 2) (.int 0)))) st := by
    refine op_of (b := .int ((value.length + 2 : Nat) : Int)) (tup_of (one_of c_of) rfl) (op_of (lenV b) c_of rfl) ?_
    rw [mul_tup (by omega) (by omega) (by simp), flat_rep]
    rfl
  exact lst_of (ys := vals16 value) (cons_of c_of (cons_of (cb_of (one_of (vX b.v)) (list_seq rfl)) (cons_of (op_of (vX b.v) (tup_of (one_of c_of) rfl) (add_tup (by simp; omega))) (three_of e3 c_of e5)))) rfl
theorem s9_ok {w v : PV} (wk1 : ∀ st, m_is_within [.p w, .p (.int 1), .p (.int 4)] st = .ok (.p (.bl false)) st) (hvn : ∀ st, m_is_seating [.p (eLine L 1), .p (eAsk kept), .p (.int (S : Int)), .p v] st = .ok (.p (.bl false)) st) (h15 : X 15 = some (.p w)) (h16 : X 16 = some (.p v)) :
    tt1b9 (EV 19 X) st = .nx (EV 19 (Ev.up X 17 (some (.p (.lst [dw w, dn, dn]))))) st := asgX (lst_of (ys := [dw w, dn, dn]) (three_of
    (told_ex (fs := ["value"]) (call_exx (cons_of (vX b.n) (three_of (vX b.m) (vX b.v) (vX h15))) (fm_weak hw k6 wk1 _)) rfl)
    (told_ex (fs := ["value"]) (call_exx (cons_of (vX b.n) (three_of (vX b.m) (vX h16) (vX b.s))) (fm_odd hw k6 h1 h4 hvn _)) rfl)
    (told_ex (fs := ["value"]) (call_exx (cons_of (vX b.n) (three_of (tup_of nil_of rfl) (tup_of nil_of rfl) (vX b.s))) (fm_empty h1 h4 _)) rfl)) rfl)
theorem s10_ok (h0 : 0 < L) {xs : List PV} (hl : xs.length ≤ 10) (h17 : X 17 = some (.p (.lst xs))) : tt1b10 (EV 19 X) st = .nx (EV 19 (Ev.up X 17 (some (.p (.lst (xs ++ [da, da])))))) st := by
  have h8l : (List.replicate (Int.toNat 8) [eSp (0, 1)]).flatten = (List.replicate 8 ((0, 1) : Sp2)).map eSp := rfl
  have e8 : r2 pMul (rTup (rCons (rTup (rCons (rC (.int 0)) (rCons (rC (.int 1)) rNil))) rNil)) (rC (.int 8)) (EV 19 X) st = .ok (.p (eAsk (List.replicate 8 ((0, 1) : Sp2)))) st := by
    refine op_of (a := .tup [eSp (0, 1)]) (tup_of (one_of (tup_of (two_of c_of c_of) rfl)) rfl) c_of ?_
    rw [mul_tup (by omega) (by omega) (by decide), h8l]
    rfl
  have hf : ∀ st, m_fewest_moves [.p (eLine L 1), .p (eAsk (List.replicate 8 ((0, 1) : Sp2))), .p (.int 1), .p (.int (-1))] st = .ex c_BadAsked (bAsked .non) st := fun st => fm_long (fun q hq => by
    rw [(List.mem_replicate.mp hq).2]
    exact ⟨by decide, by show 1 ≤ L; omega⟩) (by decide) (by decide) st
  have hg : ∀ st, m_fewest_moves [.p (eLine L 1), .p .non, .p (.int 1), .p (.int (-1))] st = .ex c_BadAsked (bAsked .non) st := fun st => fm_ex (rq_notup rfl) st
  exact asgX (op_of (vX h17) (lst_of (ys := [da, da]) (two_of (told_ex (fs := ["place"]) (call_exx (cons_of (vX b.n) (three_of e8 c_of (un_of c_of rfl))) (hf _)) rfl) (told_ex (fs := ["place"]) (call_exx (cons_of (vX b.n) (three_of c_of c_of (un_of c_of rfl))) (hg _)) rfl)) rfl) (add_lst (by simp; omega)))
theorem s11_ok (h0 : 0 < L) {xs : List PV} (hl : xs.length ≤ 10) (h17 : X 17 = some (.p (.lst xs))) : tt1b11 (EV 19 X) st = .nx (EV 19 (Ev.up X 17 (some (.p (.lst (xs ++ [dl (kept ++ [p]).length])))))) st := by
  have hk7 : (kept ++ [p]).length ≤ 7 := by rw [List.length_append]; simp; omega
  have hbad : ∀ st, m_require_asked [.p (eLine L 1), .p (.tup ((kept ++ [p]).map eSp ++ [.tup [.int 0, .int 0]]))] st = .ex c_BadAsked (bAsked (.int ((kept ++ [p]).length : Nat))) st := fun st => by
    have := rq_bad (L := L) (S := 1) (ys := (kept ++ [p]).map eSp) (zs := []) (b := .tup [.int 0, .int 0]) (fun y hy st => by
      obtain ⟨q, hq, rfl⟩ := List.mem_map.mp hy
      exact is_stretch_sp (hw q hq).1 (hw q hq).2 st) (str_second (by omega) (by omega) (wf_int _ _ _ (by omega))) (by rw [List.length_map]; simp only [List.length_nil]; omega) st
    rw [List.length_map] at this
    exact this
  have ea : r2 pAdd (rVar 12) (rTup (rCons (rTup (rCons (rC (.int 0)) (rCons (rC (.int 0)) rNil))) rNil)) (EV 19 X) st = .ok (.p (.tup ((kept ++ [p]).map eSp ++ [.tup [.int 0, .int 0]]))) st :=
    op_of (vX b.m) (tup_of (one_of (tup_of (two_of c_of c_of) rfl)) rfl) (add_tup (by rw [List.length_map]; simp only [List.length_cons, List.length_nil]; omega))
  exact asgX (op_of (vX h17) (lst_of (ys := [dl (kept ++ [p]).length]) (one_of (told_ex (fs := ["place"]) (call_exx (cons_of (vX b.n) (three_of ea (vX b.v) (vX b.s))) (fm_ex hbad _)) rfl)) rfl) (add_lst (by simp; omega)))
theorem s12_ok {w : PV} (h15 : X 15 = some (.p w)) : tt1b12 (EV 19 X) st = .nx (EV 19 (Ev.up X 18 (some (.p (.lst [dw w, dn, dn, da, da, dl (kept ++ [p]).length]))))) st := by
  have hm : rCB bLen (rCons (rVar 12) rNil) (EV 19 X) st = .ok (.p (.int ((kept ++ [p]).length : Nat))) st := cb_of (one_of (vX b.m)) (by rw [len_seq (b := false) rfl, List.length_map])
  exact asgX (lst_of (ys := [dw w, dn, dn, da, da, dl (kept ++ [p]).length]) (cons_of (tup_of (two_of c_of (vX h15)) rfl) (cons_of (tup_of (two_of c_of c_of) rfl) (cons_of (tup_of (two_of c_of c_of) rfl) (three_of (tup_of (two_of c_of c_of) rfl) (tup_of (two_of c_of c_of) rfl) (tup_of (two_of c_of hm) rfl))))) rfl)
theorem s13_ok {w : PV} (hr : Rok w 10 2) (h17 : X 17 = some (.p (.lst [dw w, dn, dn, da, da, dl (kept ++ [p]).length]))) (h18 : X 18 = some (.p (.lst [dw w, dn, dn, da, da, dl (kept ++ [p]).length]))) : tt1b13 (EV 19 X) st = .nx (EV 19 X) st := by
  have hk7 : (kept ++ [p]).length ≤ 7 := by rw [List.length_append]; simp; omega
  have hR : Rok (.lst [dw w, dn, dn, da, da, dl (kept ++ [p]).length]) 400 4 := (rok_lst (n := 29) (m := 3) (fun x hx => by
    simp only [List.mem_cons, List.mem_nil_iff, or_false] at hx
    rcases hx with rfl | rfl | rfl | rfl | rfl | rfl
    · exact rok_two (n := 11) (rok_of (x := .str "BadNumber") (by kernel_rfl)) (hr.mono (by omega) (by omega))
    · exact rok_of (by kernel_rfl)
    · exact rok_of (by kernel_rfl)
    · exact rok_of (by kernel_rfl)
    · exact rok_of (by kernel_rfl)
    · exact rok_two (n := 11) (rok_of (x := .str "BadAsked") (by kernel_rfl)) ((rok_nat (by omega)).mono (by omega) (by omega)))).mono (Nat.le_of_ble_eq_true rfl) (by decide)
  exact (sif_false (not_of (b := true) (tst_of (call_of (two_of (vX h17) (vX h18)) (same_ok hR (by decide) (by decide) _))))).trans rfl
end
theorem turn_ok {ns : List Int} {T st : Sto} {X : NV} (ht : Far T) (h : Dr ns T st) (hr : X 1 = some (.ref 0)) : ∃ T' X' st', Far T' ∧ X' 1 = some (.ref 0) ∧ Dr ns T' st' ∧ tt1b (EV 19 X) st = .nx (EV 19 X') st' := by
  obtain ⟨l, st1, hl, h1, e1⟩ := takenD ht h (n := 5) (by omega) (by omega)
  obtain ⟨m, st2, hm, h2, e2⟩ := takenD ht h1 (n := 4) (by omega) (by omega)
  let X1 := Ev.up (Ev.up X 3 (some (.p (.int ((l + 1 : Nat) : Int))))) 4 (some (.p (.int ((m + 1 : Nat) : Int))))
  have s0 : tt1b0 (EV 19 X) st = .nx (EV 19 X1) st2 := asg2X (tup_of (two_of (op_of c_of (call_of (two_of (vX hr) c_of) e1) (one_add l)) (op_of c_of (call_of (two_of (vX hr) c_of) e2) (one_add m))) rfl)
  have h3 := h2.app [none]
  obtain ⟨mo, st4, hmo, h4, e4⟩ := pickD (ht.none) h3 (xs := [.int 4, .int 6]) (by decide) (by decide)
  obtain ⟨most, rfl, hmost⟩ : ∃ k : Nat, mo = .int (k : Int) ∧ k ≤ 6 := by
    simp only [List.mem_cons, List.mem_nil_iff, or_false] at hmo
    rcases hmo with rfl | rfl
    · exact ⟨4, rfl, by omega⟩
    · exact ⟨6, rfl, by omega⟩
  obtain ⟨asks, st5, hw, h6, h5, e5⟩ := askedD (ht.none) h4 (L := l + 1) (by omega) (by omega) (most := most) (by omega)
  let X2 := Ev.up (Ev.up X1 5 (some (.p (eLine (l + 1) 1)))) 6 (some (.p (eAsk asks)))
  have s1 : tt1b1 (EV 19 X1) st2 = .nx (EV 19 X2) st5 := asg2X (tup_of (two_of (line_newT (L := l + 1) (S := 1) (by omega) (by omega) (by omega) (by omega) (two_of (vX rfl) c_of)) (call_of (three_of (vX hr) (vX rfl) (call_of (two_of (vX hr) (lst_of (ys := [.int 4, .int 6]) (two_of c_of c_of) rfl)) e4)) e5)) rfl)
  let X3 := Ev.up (Ev.up X2 7 (some (.p (.tup [])))) 8 (some (.p (.tup [])))
  have s2 : tt1b2 (EV 19 X2) st5 = .nx (EV 19 X3) st5 := asg2X (tup_of (two_of (tup_of nil_of rfl) (tup_of nil_of rfl)) rfl)
  have b3 : Bk (l + 1) (m + 1) [] [] X3 := ⟨⟨hr, rfl, rfl, rfl⟩, rfl, rfl⟩
  obtain ⟨kept, value, X4, st6, ⟨b4, g, k6⟩, hd6, s3⟩ := b3_loop (L := l + 1) (S := m + 1) (by omega) (ht.none) asks X3 st5 [] [] h5 b3 ⟨(fun _ h => by cases h), rfl, rfl, rfl⟩ (by simp; omega) hw
  have s3' : tt1b3 (EV 19 X3) st5 = .nx (EV 19 X4) st6 := (for_of (items_tup (vX rfl))).trans s3
  obtain ⟨z, st7, hz, h7, e7⟩ := pickD (ht.none) hd6 (xs := (spans (l + 1)).map eSp) (by
    rw [List.length_map]
    exact List.length_pos_of_mem (mem_spans.mpr ⟨by decide, by omega⟩ : (0, 1) ∈ spans (l + 1))) (by rw [List.length_map]; exact Nat.lt_of_le_of_lt (spans_len (by omega)) (by decide))
  obtain ⟨p, hp, rfl⟩ := List.mem_map.mp hz
  have hp := mem_spans.mp hp
  have hwm : ∀ q ∈ kept ++ [p], q.1 < q.2 ∧ q.2 ≤ l + 1 := fun q hq => by
    rcases List.mem_append.mp hq with hq | hq
    · exact g.w q hq
    · rw [List.mem_singleton.mp hq]; exact hp
  have s4 : tt1b4 (EV 19 X4) st6 = .nx (EV 19 (Ev.up X4 12 (some (.p (eAsk (kept ++ [p])))))) st7 := asgX (op_of (vX b4.k) (tup_of (one_of (call_of (two_of (vX b4.r) (call_of (one_of (vX b4.l)) (law_all_ok (by omega) _))) e7)) rfl) (addAsk (by omega)))
  have b5 : Bm (l + 1) (m + 1) kept value p (Ev.up X4 12 (some (.p (eAsk (kept ++ [p]))))) := ⟨⟨⟨b4.r, b4.l, b4.s, b4.n⟩, b4.v, b4.k⟩, rfl⟩
  generalize Ev.up X4 12 (some (.p (eAsk (kept ++ [p])))) = X5 at s4 b5
  have hS1 : 1 ≤ m + 1 := by omega
  have hS4 : m + 1 ≤ 4 := by omega
  have s5 := s5_ok (st := st7) b5 g hwm k6 hS1 hS4
  have b6 := b5.up 13 (some (.p (.lst ((seatN (kept ++ [p]) (m + 1) (kept ++ [p]).length).map (eChg value)))))
  have s6 := s6_ok (st := st7) b6 g hwm k6 hS1 hS4 rfl
  generalize Ev.up X5 13 (some (.p (.lst ((seatN (kept ++ [p]) (m + 1) (kept ++ [p]).length).map (eChg value))))) = X6 at s5 s6 b6
  obtain ⟨w, st8, hwk, h8, e8⟩ := pickD (ht.none) h7 (xs := weaks) (by decide) (by decide)
  obtain ⟨wk1, wk2⟩ := weaks_no hwk
  have s7 : tt1b7 (EV 19 X6) st7 = .nx (EV 19 (Ev.up X6 15 (some (.p w)))) st8 := asgX (call_of (two_of (vX b6.r) (lst_of (ys := weaks) (cons_of c_of (three_of c_of c_of c_of)) rfl)) e8)
  have b7 := b6.up 15 (some (.p w))
  obtain ⟨v, st9, hv, h9, e9⟩ := pickD (ht.none) h8 (xs := vals16 value) (by simp [vals16]) (by simp [vals16])
  have hvn := vals16_no g k6 (by omega) v hv
  have s8 : tt1b8 (EV 19 (Ev.up X6 15 (some (.p w)))) st8 = .nx (EV 19 (Ev.up (Ev.up X6 15 (some (.p w))) 16 (some (.p v)))) st9 := asgX (call_of (two_of (vX b7.r) (s8_items (T := T) (ns := ns) g b7 k6)) e9)
  have b8 := b7.up 16 (some (.p v))
  have c15 : (Ev.up (Ev.up X6 15 (some (.p w))) 16 (some (.p v))) 15 = some (.p w) := rfl
  have c16 : (Ev.up (Ev.up X6 15 (some (.p w))) 16 (some (.p v))) 16 = some (.p v) := rfl
  generalize Ev.up (Ev.up X6 15 (some (.p w))) 16 (some (.p v)) = X8 at s8 b8 c15 c16
  have s9 := s9_ok (st := st9) b8 g hwm k6 hS1 hS4 wk1 hvn c15 c16
  have b9 := b8.up 17 (some (.p (.lst [dw w, dn, dn])))
  have s10 := s10_ok (st := st9) b9 g hwm k6 hS1 hS4 (by omega) (xs := [dw w, dn, dn]) (by simp) rfl
  have b10 := b9.up 17 (some (.p (.lst ([dw w, dn, dn] ++ [da, da]))))
  have s11 := s11_ok (st := st9) b10 g hwm k6 hS1 hS4 (by omega) (xs := [dw w, dn, dn] ++ [da, da]) (by simp) rfl
  have b11 := b10.up 17 (some (.p (.lst ([dw w, dn, dn] ++ [da, da] ++ [dl (kept ++ [p]).length]))))
  have s12 := s12_ok (st := st9) b11 g hwm k6 hS1 hS4 (w := w) c15
  have b12 := b11.up 18 (some (.p (.lst [dw w, dn, dn, da, da, dl (kept ++ [p]).length])))
  have s13 := s13_ok (st := st9) b12 g hwm k6 hS1 hS4 wk2 rfl rfl
  exact ⟨_, _, st9, ht.none, b12.r, h9, then_of s0 (then_of s1 (then_of s2 (then_of s3' (then_of s4 (then_of s5 (then_of s6 (then_of s7 (then_of s8 (then_of s9 (then_of s10 (then_of s11 (then_of s12 s13))))))))))))⟩
theorem law_true (ns : List Int) : m_law [.p (.lsf (ns.map .int))] [] = .ok (.p (.bl true)) [] := by
  suffices q : ∃ st', b_law (Ev.envOf 19 ([.lsf (ns.map .int)].map VV.p)) [] = .rt (.p (.bl true)) st' from
    let ⟨st', q⟩ := q
    pure_rt (xs := [.lsf (ns.map .int)]) (st' := st') q []
  rw [b_law_eq]
  let X0 : NV := fun i => (Ev.envOf 19 ([.lsf (ns.map .int)].map VV.p)).getD i none
  have e0 : Ev.envOf 19 ([.lsf (ns.map .int)].map VV.p) = EV 19 X0 := (EV_of rfl).symm
  have s0 : tt0 (EV 19 X0) [] = .nx (EV 19 (Ev.up X0 1 (some (.ref 0)))) (rowT ns 0 8181 0 []) := asgX rfl
  obtain ⟨X', st', _, e⟩ := forD (n := 19) (i := 2) (bd := tt1b) (I := fun X st => ∃ T, Far T ∧ X 1 = some (.ref 0) ∧ Dr ns T st) (by decide) ((List.range 3).map fun k : Nat => PV.int (k : Int)) (Ev.up X0 1 (some (.ref 0))) (rowT ns 0 8181 0 []) ⟨[], far_nil, rfl, 0, 8181, 0, by omega, rfl⟩ fun x _ X st ⟨T, ht, hr, h⟩ => by
    obtain ⟨T', X', st', a, b, c, e⟩ := turn_ok (X := Ev.up X 2 (some (.p x))) ht h hr
    exact ⟨X', st', ⟨T', a, b, c⟩, e⟩
  rw [e0]
  exact ⟨st', then_of s0 (then_of ((for_of (range1_of (n := 3) (one_of c_of) (by omega))).trans e) (ret_of c_of))⟩
end K
end S_E4
section S_H08
open PySem PySem.Spec PyProof.Rows L2 Ev
namespace K
abbrev R : PySem.W.OpenRow := PySem.W.OpenLaw.row PySem.Challenge.rw_benchline_k08_whole_fewest_moves
abbrev hk : PySem.W.Hook := hookQ 4 fa fn fx tf ex
def ob (s : PySem.W.SharedT) : AlQ := obsQ 4 fa fn fx tf ex (HandSHeadRun.getT s)
theorem ob_eq (s : PySem.W.SharedT) : ob s = hk.obs s.abs := obsQ_eq (HandSHeadRun.getT_eq s)
def loose : List Str := (["_wall", "is_whole", "is_within", "is_row", "first_wrong", "place_told", "BenchError", "BadBench", "BadNumber", "UnknownRule", "BadAsked", "BadValues", "BadPrices", "BadSold", "TooMany", "BadText", "BadLine", "Full", "BadClaim", "NothingDone", "MOST_LEGS", "MOST_SEATS_lines", "Line", "is_stretch", "MOST_ASKED", "MOST_SEATS_asked", "MOST_MOVED", "require_asked", "do_meet", "are_apart", "is_seating", "changes_of", "reseatings", "fewest_moves", "_law_taken", "_law_pick", "_law_alike", "_law_same", "_law_refusal", "_law_told", "_law_all", "_law_asked", "_law_apart", "_law_seatings"] : List String).map Str.ofString
theorem hrun (w : World) : HandSHeadRun.RunEq R (PySem.W.view R.prog [49]) hk ob 20000 loose w := by
  intro os
  kernel_rfl
end K
end S_H08
section S_F08
open PySem PySem.Spec PyProof.Rows L2 Ev
namespace K
theorem facts {w : World} {K : PySem.W.Frag} {h : Heap} {mg : Str → Option Value} {f : Addr} (X : K.In h) (G : h.Ns mainGlobals mg) (hfa : mg ("law" : Str) = some (.ref f)) (c : SaysQ fa fn fx tf ex h K) :
    ∃ (fd : FuncData) (cs : List (Addr × Addr)) (sp : Sp), (∀ p ∈ cs, h.get? p.2 = some tabO) ∧ (∀ p ∈ cs, K.lookup p.2 = none) ∧ (∀ p ∈ cs, PySem.W.CodeHd h p.1 p.2) ∧ (∀ (s : Shared) (u : Value), BindsTo s fd ⟨[u], []⟩ [("script", u)]) ∧
      (∀ (H : Hp) (a : Addr) (ns : List Int), ns.length ≤ 63 → (∀ z ∈ ns, Builtin.Int.intBits z ≤ 1048576) → (∀ p ∈ cs, H p.2 = some (.tbl #[])) → SqL K H a (ns.map V.int) → (∀ b, H b = none ∨ H b = some (.tbl #[]) ∨ ∃ o l, H b = some (.frz o (.lst l))) → sp [.ref a] H (fun v _ => v = .bl true) fun _ _ _ => False) ∧
      ∀ base : Heap, K.In base → base.Ns mainGlobals mg → (∀ p ∈ cs, LamX.TabB base mg p.1 p.2) → FnG P w K mg base (L2.CX P w) 11 f fd ["script"] sp := by
  have T : TT K mg := ⟨⟨h, X, G⟩, c.d, c.x, c.more⟩
  obtain ⟨fd, F⟩ := T.c.def_ 21 (d := d_law) rfl
  have e := hfa.symm.trans (He.glo_ok X G (T.c.fact 60 (f := .glo "law") rfl))
  cases e
  have b := FunD.bindsA (ps := ["script"]) F fun _ _ _ _ _ _ us hl => match us, hl with | [_], _ => rfl
  refine ⟨fd, [He.cT K ("law", none), He.cT K ("require_asked", none)], spM w K (Gc K) 1 m_law, fun p hp => ?_, fun p hp => ?_, fun p hp => ?_, fun s v => b s [v] rfl, fun H a ns hl hb hT hS hH => ?_, fun base _ _ hTB => ok_law T ⟨hTB _ (by simp), hTB _ (by simp)⟩ F⟩
  · simp only [List.mem_cons, List.mem_nil_iff, or_false] at hp
    rcases hp with rfl | rfl <;> exact c.empty _ (by simp [tf])
  · simp only [List.mem_cons, List.mem_nil_iff, or_false] at hp
    rcases hp with rfl | rfl <;> exact c.out _ (by simp [tf])
  · simp only [List.mem_cons, List.mem_nil_iff, or_false] at hp
    rcases hp with rfl | rfl <;> exact PySem.W.codeHd_of_K X (c.hd _ (by simp [tf]))
  · refine sp_lawG (law_true ns) (Nat.le_trans hl (by decide)) (fun k q Q e1 e2 => ?_) hS hH
    have hk : k < 4 := (List.getElem?_eq_some_iff.mp e1).1
    have : k = 0 ∨ k = 1 ∨ k = 2 ∨ k = 3 := by omega
    rcases this with rfl | rfl | rfl | rfl
    · have e3 : (He.cT K ("law", none)).2 + 1 = Q + 1 := e2
      obtain rfl := Nat.succ.inj e3
      exact hT _ (by simp)
    · have e3 : (He.cT K ("require_asked", none)).2 + 1 = Q + 1 := e2
      obtain rfl := Nat.succ.inj e3
      exact hT _ (by simp)
    · exact absurd (show 0 = Q + 1 from e2) (fun z => Nat.succ_ne_zero Q z.symm)
    · exact absurd (show 0 = Q + 1 from e2) (fun z => Nat.succ_ne_zero Q z.symm)
end K
open PySem PySem.W PySem.Calls PyProof.Rows
theorem PySem.Challenge.cw_benchline_k08_whole_fewest_moves_holds : PySem.Challenge.rw_benchline_k08_whole_fewest_moves.Holds := by
  w_on; o_law
  refine HandSHeadRun.head_any (r := OpenLaw.row PySem.Challenge.rw_benchline_k08_whole_fewest_moves) (q := view (OpenLaw.row PySem.Challenge.rw_benchline_k08_whole_fewest_moves).prog [49]) (H := K.hk) (ob := K.ob) (M := 20000) (loose := K.loose) (d := HandSHeadRun.topDef (OpenLaw.row PySem.Challenge.rw_benchline_k08_whole_fewest_moves).prog 49) (kwd := []) K.ob_eq
    (by kernel_rfl) (fun s => by kernel_rfl) K.hrun (by kernel_rfl) (by kernel_rfl) (by kernel_rfl) (by rfl) (by first | assumption | decide +kernel) (by decide +kernel) ⟨rfl, rfl, rfl, rfl, rfl, by decide +kernel⟩ ?hw ?hc
  case hw => w_witness2
  case hc =>
    refine Ev.walkG (l := PySem.Challenge.rw_benchline_k08_whole_fewest_moves) (n := 63) (k := 11) (x := "script") rfl (by decide) (by kernel_rfl) ⟨rfl, by decide, by decide⟩ ?F
    intro w mg fa h Y G hmg0
    obtain ⟨KK, KX, c⟩ := Y
    have hmg : mg ("law" : PySem.Str) = some (.ref fa) := by
      have e : (HandSHeadRun.topDef (OpenLaw.row PySem.Challenge.rw_benchline_k08_whole_fewest_moves).prog 49).name = ("law" : PySem.Str) := by kernel_rfl
      rw [← e]
      exact hmg0
    obtain ⟨fd, cs, sp, h1, h2, h3, h4, h5, h6⟩ := K.facts (w := w) KX G hmg c
    exact ⟨KK, fd, cs, sp, KX, h1, h2, h3, h4, h5, h6⟩
end S_F08
