import PyProof.Rows.All
import Wide.All
import OpenK.AllK
import Wide.FinOn
import HandS.ForMost
import HandS.ForExc
import KE.SortData
import HandS.Walk
import HandS.Deep
import HandS.TupLe
import HandS.TupMul
import HandS.Wide
import HandS.Text
import HandS.FStr
import HandS.IsInst
import HandS.More
import HandS.TupLen
import HandS.Style
import KE.KUnpackStar
import HandS.Finally
import KE.KDictKeyed
import HandS.ExcInit
import HandS.ExcField
import HandS.ExcIs
import HandS.TryOnly
import KE.KEqNest
import PyProof.ReprRoads
import HandS.Ends
import HandS.EndBits
import KE.KDictCopyH
import KE.KDictItemsList
import KE.KDictPairs
import HandS.DictTup
import HandS.Small
import PyProof.FitsInt
import KE.IntTextLaws
import PyProof.Rows.StrSplitAre
import PyProof.Rows.StrItems
import PyProof.Rows.StrSplitCount
import PySem.Challenge.RW_longsheet_k92_contents_and_cells_read
set_option linter.all false
-- part DCore
set_option Elab.async false
set_option maxRecDepth 100000
set_option maxHeartbeats 400000
namespace DL
open PySem L2

/-! ### data as it stands in the frozen part F of the abstract heap -/
def keyD : Key → PyData
  | .inl i => .int i
  | .inr x => .str x
def tkeyD (k : List Key) : PyData := .tuple (k.map keyD)

mutual
def Rep (K : PySem.W.Frag) (F : Hp) : PyData → V → Prop
  | .none, v => v = .non
  | .bool b, v => v = .bl b
  | .int i, v => v = .int i
  | .str x, v => v = .str x
  | .tuple ds, v => ∃ a vs, v = .ref a ∧ F a = some (.tup vs) ∧ Reps K F ds vs
  | .list ds, v => ∃ a vs, v = .ref a ∧ F a = some (.lst vs) ∧ Reps K F ds vs
  | .dict kvs, v => ∃ a, v = .ref a ∧ ((∃ ps, F a = some (.dK ps) ∧ RepK K F kvs ps) ∨ (∃ ps, F a = some (.dT ps) ∧ RepT K F kvs ps))
def Reps (K : PySem.W.Frag) (F : Hp) : List PyData → List V → Prop
  | [], vs => vs = []
  | d :: ds, vs => ∃ v r, vs = v :: r ∧ Rep K F d v ∧ Reps K F ds r
def RepK (K : PySem.W.Frag) (F : Hp) : List (PyData × PyData) → List (Key × V) → Prop
  | [], ps => ps = []
  | (k, d) :: r, ps => ∃ q v t, ps = (q, v) :: t ∧ k = keyD q ∧ Rep K F d v ∧ RepK K F r t
def RepT (K : PySem.W.Frag) (F : Hp) : List (PyData × PyData) → List (List Key × V) → Prop
  | [], ps => ps = []
  | (k, d) :: r, ps => ∃ q v t, ps = (q, v) :: t ∧ k = tkeyD q ∧ Rep K F d v ∧ RepT K F r t
end

theorem same_rd {F F' : Hp} {a : Addr} {u : HO} (e : Same F F') (h : Rd F a u) : Rd F' a u := by
  rcases h with h | ⟨o, h⟩
  · exact .inl (e _ _ h)
  · exact .inr ⟨o, e _ _ h⟩
theorem same_t {K : PySem.W.Frag} {F F' : Hp} {a : Addr} {xs : List V} (e : Same F F') (h : SqT K F a xs) : SqT K F' a xs := by
  rcases h with h | h
  · exact .inl (same_rd e h)
  · exact .inr h
theorem same_l {K : PySem.W.Frag} {F F' : Hp} {a : Addr} {xs : List V} (e : Same F F') (h : SqL K F a xs) : SqL K F' a xs := by
  rcases h with h | h
  · exact .inl (same_rd e h)
  · exact .inr h

mutual
theorem Rep.mono {K : PySem.W.Frag} {F F' : Hp} (e : Same F F') : ∀ (d : PyData) (v : V), Rep K F d v → Rep K F' d v
  | .none, _, h => h
  | .bool _, _, h => h
  | .int _, _, h => h
  | .str _, _, h => h
  | .tuple ds, v, h => by
    simp only [Rep] at h ⊢
    obtain ⟨a, vs, h1, h2, h3⟩ := h
    exact ⟨a, vs, h1, e _ _ h2, Reps.mono e ds vs h3⟩
  | .list ds, v, h => by
    simp only [Rep] at h ⊢
    obtain ⟨a, vs, h1, h2, h3⟩ := h
    exact ⟨a, vs, h1, e _ _ h2, Reps.mono e ds vs h3⟩
  | .dict kvs, v, h => by
    simp only [Rep] at h ⊢
    obtain ⟨a, h1, h2⟩ := h
    rcases h2 with ⟨ps, h2, h3⟩ | ⟨ps, h2, h3⟩
    · exact ⟨a, h1, .inl ⟨ps, e _ _ h2, RepK.mono e kvs ps h3⟩⟩
    · exact ⟨a, h1, .inr ⟨ps, e _ _ h2, RepT.mono e kvs ps h3⟩⟩
theorem Reps.mono {K : PySem.W.Frag} {F F' : Hp} (e : Same F F') : ∀ (ds : List PyData) (vs : List V), Reps K F ds vs → Reps K F' ds vs
  | [], _, h => h
  | d :: ds, vs, h => by
    simp only [Reps] at h ⊢
    obtain ⟨v, r, h1, h2, h3⟩ := h
    exact ⟨v, r, h1, Rep.mono e d v h2, Reps.mono e ds r h3⟩
theorem RepK.mono {K : PySem.W.Frag} {F F' : Hp} (e : Same F F') : ∀ (kvs : List (PyData × PyData)) (ps : List (Key × V)), RepK K F kvs ps → RepK K F' kvs ps
  | [], _, h => h
  | (k, d) :: r, ps, h => by
    simp only [RepK] at h ⊢
    obtain ⟨q, v, t, h1, h2, h3, h4⟩ := h
    exact ⟨q, v, t, h1, h2, Rep.mono e d v h3, RepK.mono e r t h4⟩
theorem RepT.mono {K : PySem.W.Frag} {F F' : Hp} (e : Same F F') : ∀ (kvs : List (PyData × PyData)) (ps : List (List Key × V)), RepT K F kvs ps → RepT K F' kvs ps
  | [], _, h => h
  | (k, d) :: r, ps, h => by
    simp only [RepT] at h ⊢
    obtain ⟨q, v, t, h1, h2, h3, h4⟩ := h
    exact ⟨q, v, t, h1, h2, Rep.mono e d v h3, RepT.mono e r t h4⟩
end

theorem Reps.length {K : PySem.W.Frag} {F : Hp} : ∀ {ds : List PyData} {vs : List V}, Reps K F ds vs → vs.length = ds.length
  | [], vs, h => by simp only [Reps] at h; subst h; rfl
  | d :: ds, vs, h => by
    simp only [Reps] at h
    obtain ⟨v, r, rfl, _, h⟩ := h
    simp only [List.length_cons, Reps.length h]
theorem Reps.nil {K : PySem.W.Frag} {F : Hp} : Reps K F [] [] := by simp only [Reps]
theorem Reps.cons {K : PySem.W.Frag} {F : Hp} {d : PyData} {v : V} {ds : List PyData} {vs : List V} (h : Rep K F d v) (t : Reps K F ds vs) : Reps K F (d :: ds) (v :: vs) := by
  simp only [Reps]
  exact ⟨v, vs, rfl, h, t⟩
theorem Reps.append {K : PySem.W.Frag} {F : Hp} : ∀ {ds es : List PyData} {vs us : List V}, Reps K F ds vs → Reps K F es us → Reps K F (ds ++ es) (vs ++ us)
  | [], _, _, _, h, q => by simp only [Reps] at h; subst h; exact q
  | d :: ds, es, vs, us, h, q => by
    simp only [Reps] at h
    obtain ⟨v, r, rfl, h1, h⟩ := h
    exact Reps.cons h1 (Reps.append h q)
theorem Reps.get {K : PySem.W.Frag} {F : Hp} : ∀ {ds : List PyData} {vs : List V} {i : Nat} {d : PyData}, Reps K F ds vs → ds[i]? = some d → ∃ v, vs[i]? = some v ∧ Rep K F d v
  | [], _, _, _, _, e => by simp at e
  | d :: ds, vs, i, d', h, e => by
    simp only [Reps] at h
    obtain ⟨v, r, rfl, h1, h⟩ := h
    cases i with
    | zero => simp at e; subst e; exact ⟨v, by simp, h1⟩
    | succ i =>
      obtain ⟨u, h2, h3⟩ := Reps.get (i := i) h (by simpa using e)
      exact ⟨u, by simpa using h2, h3⟩
theorem Reps.get' {K : PySem.W.Frag} {F : Hp} {ds : List PyData} {vs : List V} {i : Nat} {v : V} (h : Reps K F ds vs) (e : vs[i]? = some v) : ∃ d, ds[i]? = some d ∧ Rep K F d v := by
  have hl := h.length
  have hi : i < vs.length := (List.getElem?_eq_some_iff.mp e).1
  have e2 : ds[i]? = some (ds[i]'(by omega)) := List.getElem?_eq_getElem (by omega)
  obtain ⟨u, h1, h2⟩ := h.get e2
  rw [e] at h1
  cases h1
  exact ⟨_, e2, h2⟩
theorem Reps.take {K : PySem.W.Frag} {F : Hp} (n : Nat) : ∀ {ds : List PyData} {vs : List V}, Reps K F ds vs → Reps K F (ds.take n) (vs.take n) := by
  induction n with
  | zero => intro ds vs _; simp only [List.take_zero]; exact Reps.nil
  | succ n ih =>
    intro ds vs h
    cases ds with
    | nil => simp only [Reps] at h; subst h; simp only [List.take_nil]; exact Reps.nil
    | cons d ds =>
      simp only [Reps] at h
      obtain ⟨v, r, rfl, h1, h⟩ := h
      simp only [List.take_succ_cons]
      exact Reps.cons h1 (ih h)
theorem Reps.drop {K : PySem.W.Frag} {F : Hp} (n : Nat) : ∀ {ds : List PyData} {vs : List V}, Reps K F ds vs → Reps K F (ds.drop n) (vs.drop n) := by
  induction n with
  | zero => intro ds vs h; exact h
  | succ n ih =>
    intro ds vs h
    cases ds with
    | nil => simp only [Reps] at h; subst h; simp only [List.drop_nil]; exact Reps.nil
    | cons d ds =>
      simp only [Reps] at h
      obtain ⟨v, r, rfl, h1, h⟩ := h
      simp only [List.drop_succ_cons]
      exact ih h
theorem Reps.split {K : PySem.W.Frag} {F : Hp} {d : PyData} {ds : List PyData} {vs : List V} (h : Reps K F (d :: ds) vs) : ∃ v r, vs = v :: r ∧ Rep K F d v ∧ Reps K F ds r := by
  simpa only [Reps] using h
theorem Reps.ints {K : PySem.W.Frag} {F : Hp} : ∀ {ns : List Int} {vs : List V}, Reps K F (ns.map .int) vs → vs = ns.map V.int
  | [], vs, h => by simpa only [List.map_nil, Reps] using h
  | n :: ns, vs, h => by
    obtain ⟨v, r, rfl, h1, h⟩ := Reps.split (by simpa only [List.map_cons] using h)
    simp only [Rep] at h1
    rw [List.map_cons, Reps.ints h, h1]
theorem Reps.of_ints {K : PySem.W.Frag} {F : Hp} : ∀ (ns : List Int), Reps K F (ns.map .int) (ns.map V.int)
  | [] => Reps.nil
  | n :: ns => Reps.cons (by simp only [Rep]) (Reps.of_ints ns)
theorem Reps.strs {K : PySem.W.Frag} {F : Hp} : ∀ {xs : List Str} {vs : List V}, Reps K F (xs.map .str) vs → vs = xs.map V.str
  | [], vs, h => by simpa only [List.map_nil, Reps] using h
  | n :: ns, vs, h => by
    obtain ⟨v, r, rfl, h1, h⟩ := Reps.split (by simpa only [List.map_cons] using h)
    simp only [Rep] at h1
    rw [List.map_cons, Reps.strs h, h1]
theorem Reps.of_strs {K : PySem.W.Frag} {F : Hp} : ∀ (ns : List Str), Reps K F (ns.map .str) (ns.map V.str)
  | [] => Reps.nil
  | n :: ns => Reps.cons (by simp only [Rep]) (Reps.of_strs ns)
end DL

-- part DSt
set_option Elab.async false
set_option maxRecDepth 100000
set_option maxHeartbeats 400000
namespace DL
open PySem L2

/-! ### slots -/
inductive Slot where
  | un
  | dat (d : PyData)
  | own (ds : List PyData)
  | ownT (kvs : List (List Key × PyData))
  | ownK (kvs : List (Key × PyData))
  | vw (i : Nat)
  | bag
  | ext (φ : Hp → V → Prop)
def Slot.isOwn : Slot → Bool
  | .own _ => true
  | .ownT _ => true
  | .ownK _ => true
  | _ => false
def Slot.isVw : Slot → Bool
  | .vw _ => true
  | _ => false
def dT (kvs : List (List Key × PyData)) : PyData := .dict (kvs.map fun p => (tkeyD p.1, p.2))
def dK (kvs : List (Key × PyData)) : PyData := .dict (kvs.map fun p => (keyD p.1, p.2))
def Slot.data : Slot → Option PyData
  | .dat d => some d
  | .own ds => some (.list ds)
  | .ownT kvs => some (dT kvs)
  | .ownK kvs => some (dK kvs)
  | _ => none
/-- what a result r is to be read as, the slots being ρ -/
def look (ρ : List Slot) : Slot → Option PyData
  | .vw i => (ρ[i]?).bind Slot.data
  | r => r.data
/-- frozen -/
def frS : Slot → Slot
  | .own ds => .dat (.list ds)
  | .ownT kvs => .dat (dT kvs)
  | .ownK kvs => .dat (dK kvs)
  | s => s
def frz (ρ : List Slot) : Slot → Slot × List Slot
  | .vw i => match ρ[i]? with
    | some s => (frS s, ρ.set i (frS s))
    | none => (.un, ρ)
  | r => (frS r, ρ)

/-- what is fixed through a def's body: the written part, where the bag stands (if it is known), the frozen and the whole heap at the entry -/
structure Fr where
  K : PySem.W.Frag
  b : Option Addr
  F0 : Hp
  H0 : Hp

def KVs {κ : Type} (K : PySem.W.Frag) (F : Hp) : List (κ × PyData) → List (κ × V) → Prop
  | [], ps => ps = []
  | (k, d) :: r, ps => ∃ v t, ps = (k, v) :: t ∧ Rep K F d v ∧ KVs K F r t
theorem KVs.mono {κ : Type} {K : PySem.W.Frag} {F F' : Hp} (e : Same F F') : ∀ {kvs : List (κ × PyData)} {ps : List (κ × V)}, KVs K F kvs ps → KVs K F' kvs ps
  | [], _, h => h
  | (k, d) :: r, ps, h => by
    obtain ⟨v, t, h1, h2, h3⟩ := h
    exact ⟨v, t, h1, Rep.mono e d v h2, KVs.mono e h3⟩
theorem KVs.length {κ : Type} {K : PySem.W.Frag} {F : Hp} : ∀ {kvs : List (κ × PyData)} {ps : List (κ × V)}, KVs K F kvs ps → ps.length = kvs.length
  | [], _, h => by have h : _ = [] := h; subst h; rfl
  | (k, d) :: r, ps, h => by
    obtain ⟨v, t, rfl, h2, h3⟩ := h
    simp only [List.length_cons, KVs.length h3]
theorem KVs.toT {K : PySem.W.Frag} {F : Hp} : ∀ {kvs : List (List Key × PyData)} {ps : List (List Key × V)}, KVs K F kvs ps → RepT K F (kvs.map fun p => (tkeyD p.1, p.2)) ps
  | [], _, h => by have h : _ = [] := h; subst h; simp only [List.map_nil, RepT]
  | (k, d) :: r, ps, h => by
    obtain ⟨v, t, rfl, h2, h3⟩ := h
    simp only [List.map_cons, RepT]
    exact ⟨k, v, t, rfl, rfl, h2, KVs.toT h3⟩
theorem KVs.toK {K : PySem.W.Frag} {F : Hp} : ∀ {kvs : List (Key × PyData)} {ps : List (Key × V)}, KVs K F kvs ps → RepK K F (kvs.map fun p => (keyD p.1, p.2)) ps
  | [], _, h => by have h : _ = [] := h; subst h; simp only [List.map_nil, RepK]
  | (k, d) :: r, ps, h => by
    obtain ⟨v, t, rfl, h2, h3⟩ := h
    simp only [List.map_cons, RepK]
    exact ⟨k, v, t, rfl, rfl, h2, KVs.toK h3⟩

def SlotOk (G : Fr) (F H : Hp) (σ : St) : Slot → V → Prop
  | .un, _ => True
  | .dat d, v => Rep G.K F d v
  | .own ds, v => ∃ l vs, v = .ref l ∧ F l = none ∧ G.H0 l = none ∧ H l = some (.lst vs) ∧ Reps G.K F ds vs
  | .ownT kvs, v => ∃ l ps, v = .ref l ∧ F l = none ∧ G.H0 l = none ∧ H l = some (.dT ps) ∧ KVs G.K F kvs ps
  | .ownK kvs, v => ∃ l ps, v = .ref l ∧ F l = none ∧ G.H0 l = none ∧ H l = some (.dK ps) ∧ KVs G.K F kvs ps
  | .vw i, v => σ[i]? = some (some v)
  | .bag, v => ∃ b, G.b = some b ∧ v = .ref b
  | .ext φ, v => ∀ F', Same F F' → φ F' v

/-- the law's bag -/
def BagAt (K : PySem.W.Frag) (F H : Hp) (l : Addr) : Prop :=
  F l = none ∧ ∃ (n1 n2 n3 : Int) (c : Addr) (ns : List Int), H l = some (.lst [.int n1, .int n2, .int n3, .ref c]) ∧ F c = some (.lst (ns.map V.int)) ∧ 0 ≤ n3 ∧ ns.length ≤ 1000
theorem BagAt.mono {K : PySem.W.Frag} {F F' H H' : Hp} {l : Addr} (h : BagAt K F H l) (e : Same F F') (hn : F' l = none) (hH : H' l = H l) : BagAt K F' H' l := by
  obtain ⟨_, n1, n2, n3, c, ns, h1, h2, h3, h4⟩ := h
  exact ⟨hn, n1, n2, n3, c, ns, by rw [hH]; exact h1, e _ _ h2, h3, h4⟩

/-- objects that are never changed -/
inductive Imm : HO → Prop
  | tup (xs : List V) : Imm (.tup xs)
  | xd (fs : List (Str × V)) : Imm (.xd fs)
structure StOk (G : Fr) (ρ : List Slot) (F : Hp) (σ : St) (H : Hp) : Prop where
  len : ρ.length = σ.length
  slot : ∀ (i : Nat) (s : Slot), ρ[i]? = some s → s = .un ∨ ∃ v, σ[i]? = some (some v) ∧ SlotOk G F H σ s v
  novw : ∀ (i : Nat) (s : Slot), ρ[i]? = some s → s.isVw = false
  inj : ∀ (i j : Nat) (s t : Slot) (l : Addr), ρ[i]? = some s → ρ[j]? = some t → s.isOwn = true → t.isOwn = true → σ[i]? = some (some (.ref l)) → σ[j]? = some (some (.ref l)) → i = j
  ex : Same F H
  exF : Same G.F0 F
  keep : ∀ l o, G.H0 l = some o → G.b ≠ some l → H l = some o
  new : ∀ l o, F l = some o → G.F0 l = some o ∨ G.H0 l = none ∨ Imm o
  bag : ∀ l, G.b = some l → BagAt G.K F H l ∧ ∃ o, G.H0 l = some o

/-- a result: fresh, if it is an owned object -/
def Res (G : Fr) (ρ : List Slot) (F : Hp) (σ : St) (H : Hp) (r : Slot) (v : V) : Prop :=
  SlotOk G F H σ r v ∧ (r.isOwn = true → ∀ (i : Nat) (s : Slot) (l : Addr), ρ[i]? = some s → s.isOwn = true → σ[i]? = some (some (.ref l)) → v ≠ .ref l)

section
variable {G : Fr} {ρ ρ' : List Slot} {F F' H H' : Hp} {σ : St} {r s : Slot} {v : V} {i : Nat}

/-- an owned slot's object -/
theorem own_addr (h : SlotOk G F H σ s v) (ho : s.isOwn = true) : ∃ l o, v = .ref l ∧ F l = none ∧ G.H0 l = none ∧ H l = some o := by
  cases s with
  | own ds => obtain ⟨l, vs, h1, h2, h3, h4, _⟩ := h; exact ⟨l, _, h1, h2, h3, h4⟩
  | ownT ds => obtain ⟨l, vs, h1, h2, h3, h4, _⟩ := h; exact ⟨l, _, h1, h2, h3, h4⟩
  | ownK ds => obtain ⟨l, vs, h1, h2, h3, h4, _⟩ := h; exact ⟨l, _, h1, h2, h3, h4⟩
  | un => cases ho
  | dat _ => cases ho
  | vw _ => cases ho
  | bag => cases ho
  | ext _ => cases ho
theorem own_imm {l : Addr} {o : HO} (h : SlotOk G F H σ s (.ref l)) (ho : s.isOwn = true) (e : H l = some o) : ¬ Imm o := by
  cases s with
  | own ds => obtain ⟨l, vs, h1, h2, h3, h4, _⟩ := h; cases h1; rw [e] at h4; cases h4; exact fun z => nomatch z
  | ownT ds => obtain ⟨l, vs, h1, h2, h3, h4, _⟩ := h; cases h1; rw [e] at h4; cases h4; exact fun z => nomatch z
  | ownK ds => obtain ⟨l, vs, h1, h2, h3, h4, _⟩ := h; cases h1; rw [e] at h4; cases h4; exact fun z => nomatch z
  | un => cases ho
  | dat _ => cases ho
  | vw _ => cases ho
  | bag => cases ho
  | ext _ => cases ho
theorem SlotOk.move {σ' : St} (h : SlotOk G F H σ s v) (hv : s.isVw = false) (e : Same F F') (k : ∀ l o, s.isOwn = true → v = .ref l → H l = some o → H' l = some o) (n : ∀ l, s.isOwn = true → v = .ref l → F' l = none) : SlotOk G F' H' σ' s v := by
  cases s with
  | un => trivial
  | dat d => exact Rep.mono e d v h
  | own ds =>
    obtain ⟨l, vs, rfl, h2, h3, h4, h5⟩ := h
    exact ⟨l, vs, rfl, n l rfl rfl, h3, k l _ rfl rfl h4, Reps.mono e _ _ h5⟩
  | ownT ds =>
    obtain ⟨l, vs, rfl, h2, h3, h4, h5⟩ := h
    exact ⟨l, vs, rfl, n l rfl rfl, h3, k l _ rfl rfl h4, KVs.mono e h5⟩
  | ownK ds =>
    obtain ⟨l, vs, rfl, h2, h3, h4, h5⟩ := h
    exact ⟨l, vs, rfl, n l rfl rfl, h3, k l _ rfl rfl h4, KVs.mono e h5⟩
  | vw _ => cases hv
  | bag => exact h
  | ext φ => exact fun F'' e' => h F'' (e.trans e')
theorem StOk.at (I : StOk G ρ F σ H) (h : ρ[i]? = some s) (hu : s ≠ .un) : ∃ v, σ[i]? = some (some v) ∧ SlotOk G F H σ s v := by
  rcases I.slot i s h with e | e
  · exact absurd e hu
  · exact e
theorem StOk.freeF (I : StOk G ρ F σ H) {p : Addr} (hp : H p = none) : F p = none := by
  cases q : F p with
  | none => rfl
  | some o => rw [I.ex p o q] at hp; cases hp
theorem StOk.free0 (I : StOk G ρ F σ H) {p : Addr} (hp : H p = none) : G.H0 p = none := by
  cases q : G.H0 p with
  | none => rfl
  | some o =>
    by_cases hb : G.b = some p
    · obtain ⟨⟨_, n1, n2, n3, c, ns, h1, _⟩, _⟩ := I.bag p hb
      rw [h1] at hp; cases hp
    · rw [I.keep p o q hb] at hp; cases hp
theorem StOk.own_ne (I : StOk G ρ F σ H) {p l : Addr} (hp : H p = none) (h : ρ[i]? = some s) (ho : s.isOwn = true) (e : σ[i]? = some (some (.ref l))) : l ≠ p := by
  obtain ⟨v, h1, h2⟩ := I.at h (by rintro rfl; cases ho)
  rw [e] at h1; cases h1
  obtain ⟨l', o, e1, _, _, h4⟩ := own_addr h2 ho
  cases e1
  intro e'; subst e'; rw [h4] at hp; cases hp

/-- the heap grows: what F had stays, what H had stays, F gets new objects alone -/
theorem StOk.grow (I : StOk G ρ F σ H) (e : Same F F') (x : Same F' H') (k : ∀ l o, H l = some o → G.b ≠ some l → H' l = some o) (n : ∀ l o, F' l = some o → F l = some o ∨ H l = none ∨ Imm o)
    (hb : ∀ l, G.b = some l → BagAt G.K F' H' l) : StOk G ρ F' σ H' := by
  refine ⟨I.len, fun i s h => ?_, I.novw, I.inj, x, I.exF.trans e, fun l o h hb => k l o (I.keep l o h hb) hb, fun l o h => ?_, fun l h => ⟨hb l h, (I.bag l h).2⟩⟩
  · rcases I.slot i s h with q | ⟨v, h1, h2⟩
    · exact .inl q
    · refine .inr ⟨v, h1, h2.move (I.novw i s h) e (fun l o ho hv q => ?_) (fun l ho hv => ?_)⟩
      · obtain ⟨l', o', e1, f1, f0, _⟩ := own_addr h2 ho
        subst hv
        cases e1
        refine k l o q fun z => ?_
        obtain ⟨_, o2, z2⟩ := I.bag l z
        rw [f0] at z2; cases z2
      · obtain ⟨l', o', e1, f1, f0, h4⟩ := own_addr h2 ho
        subst hv
        cases e1
        cases q : F' l with
        | none => rfl
        | some o =>
          rcases n l o q with z | z | z
          · rw [f1] at z; cases z
          · rw [h4] at z; cases z
          · have y := x _ _ q
            have y2 := k l _ h4 (fun z => by
              obtain ⟨_, o2, z2⟩ := I.bag l z
              rw [f0] at z2; cases z2)
            rw [y2] at y
            cases y
            exact absurd z (own_imm h2 ho h4)
  · rcases n l o h with z | z | z
    · exact I.new l o z
    · exact .inr (.inl (I.free0 z))
    · exact .inr (.inr z)
theorem StOk.bagKeep (I : StOk G ρ F σ H) (e : Same F F') (x : Same F' H') (k : ∀ l o, H l = some o → H' l = some o) (n : ∀ l o, F' l = some o → F l = some o ∨ H l = none ∨ Imm o) : ∀ l, G.b = some l → BagAt G.K F' H' l := fun l h => by
  obtain ⟨q, o, h0⟩ := I.bag l h
  obtain ⟨q0, n1, n2, n3, c, ns, h1, h2, h3⟩ := id q
  refine q.mono e ?_ (by rw [k l _ h1, h1])
  cases z : F' l with
  | none => rfl
  | some o =>
    rcases n l o z with z' | z' | z'
    · rw [q0] at z'; cases z'
    · rw [h1] at z'; cases z'
    · have y := x _ _ z
      rw [k l _ h1] at y
      cases y
      cases z'
/-- a new object, not frozen -/
theorem StOk.alloc (I : StOk G ρ F σ H) {p : Addr} {o : HO} (hp : H p = none) : StOk G ρ F σ (upd H p o) := by
  have k : ∀ l u, H l = some u → upd H p o l = some u := fun l u h => by rw [upd_ne (ne_of_none h hp)]; exact h
  exact I.grow (Same.refl F) (fun l u h => k l u (I.ex l u h)) (fun l u h _ => k l u h) (fun l u h => .inl h) (I.bagKeep (Same.refl F) (fun l u h => k l u (I.ex l u h)) k fun l u h => .inl h)
/-- a new frozen object -/
theorem StOk.allocF (I : StOk G ρ F σ H) {p : Addr} {o : HO} (hp : H p = none) : StOk G ρ (upd F p o) σ (upd H p o) := by
  have k : ∀ l u, H l = some u → upd H p o l = some u := fun l u h => by rw [upd_ne (ne_of_none h hp)]; exact h
  have hF := I.freeF hp
  have n : ∀ l u, upd F p o l = some u → F l = some u ∨ H l = none ∨ Imm u := fun l u h => by
    by_cases e : l = p
    · subst e; exact .inr (.inl hp)
    · rw [upd_ne e] at h; exact .inl h
  have e : Same F (upd F p o) := fun l u h => by rw [upd_ne (ne_of_none h hF)]; exact h
  have x : Same (upd F p o) (upd H p o) := fun l u h => by
    by_cases q : l = p
    · subst q; rw [upd_same] at h ⊢; exact h
    · rw [upd_ne q] at h ⊢; exact I.ex l u h
  exact I.grow e x (fun l u h _ => k l u h) n (I.bagKeep e x k n)
theorem same_upd {p : Addr} {o : HO} (hp : F p = none) : Same F (upd F p o) := fun l u h => by rw [upd_ne (ne_of_none h hp)]; exact h

/-- slot i gets a result -/
theorem StOk.set (I : StOk G ρ F σ H) (R : Res G ρ F σ H r v) (hv : r.isVw = false) : StOk G (ρ.set i r) F (σ.set i (some v)) H := by
  refine ⟨by rw [List.length_set, List.length_set]; exact I.len, fun j s h => ?_, fun j s h => ?_, fun j k s t l h1 h2 h3 h4 h5 h6 => ?_, I.ex, I.exF, I.keep, I.new, I.bag⟩
  · rw [List.getElem?_set] at h
    by_cases e : i = j
    · subst e
      rw [if_pos rfl] at h
      by_cases hl : i < ρ.length
      · rw [if_pos hl] at h
        cases h
        refine .inr ⟨v, by rw [List.getElem?_set_self (by rw [← I.len]; exact hl)], R.1.move hv (Same.refl F) (fun _ _ _ _ q => q) fun l ho e => ?_⟩
        obtain ⟨l', o, e1, f1, _⟩ := own_addr R.1 ho
        subst e; cases e1; exact f1
      · rw [if_neg hl] at h; cases h
    · rw [if_neg e] at h
      rcases I.slot j s h with q | ⟨u, h1, h2⟩
      · exact .inl q
      · refine .inr ⟨u, by rw [List.getElem?_set_ne e]; exact h1, h2.move (I.novw j s h) (Same.refl F) (fun _ _ _ _ q => q) fun l ho e => ?_⟩
        obtain ⟨l', o, e1, f1, _⟩ := own_addr h2 ho
        subst e; cases e1; exact f1
  · rw [List.getElem?_set] at h
    by_cases e : i = j
    · rw [if_pos e] at h
      by_cases hl : i < ρ.length
      · rw [if_pos hl] at h; cases h; exact hv
      · rw [if_neg hl] at h; cases h
    · rw [if_neg e] at h; exact I.novw j s h
  · rw [List.getElem?_set] at h1 h2 h5 h6
    by_cases e1 : i = j
    · by_cases e2 : i = k
      · exact e1.symm.trans e2
      · rw [if_pos e1] at h1 h5
        rw [if_neg e2] at h2 h6
        by_cases hl : i < ρ.length
        · rw [if_pos hl] at h1; cases h1
          rw [if_pos (by rw [← I.len]; exact hl)] at h5
          have e5 : v = .ref l := by cases h5; rfl
          exact absurd e5 (R.2 h3 k t l h2 h4 h6)
        · rw [if_neg hl] at h1; cases h1
    · by_cases e2 : i = k
      · rw [if_neg e1] at h1 h5
        rw [if_pos e2] at h2 h6
        by_cases hl : i < ρ.length
        · rw [if_pos hl] at h2; cases h2
          rw [if_pos (by rw [← I.len]; exact hl)] at h6
          have e5 : v = .ref l := by cases h6; rfl
          exact absurd e5 (R.2 h4 j s l h1 h3 h5)
        · rw [if_neg hl] at h2; cases h2
      · rw [if_neg e1] at h1 h5
        rw [if_neg e2] at h2 h6
        exact I.inj j k s t l h1 h2 h3 h4 h5 h6

/-- the object that an owned result stands at is frozen -/
theorem own_rep (h : SlotOk G F H σ s v) (ho : s.isOwn = true) : ∃ l o, v = .ref l ∧ F l = none ∧ H l = some o ∧ ∀ F', Same F F' → F' l = some o → ∃ d, frS s = .dat d ∧ s.data = some d ∧ Rep G.K F' d v := by
  cases s with
  | own ds =>
    obtain ⟨l, vs, rfl, h2, h3, h4, h5⟩ := h
    exact ⟨l, _, rfl, h2, h4, fun F' e q => ⟨_, rfl, rfl, by simp only [Rep]; exact ⟨l, vs, rfl, q, Reps.mono e _ _ h5⟩⟩⟩
  | ownT ds =>
    obtain ⟨l, ps, rfl, h2, h3, h4, h5⟩ := h
    exact ⟨l, _, rfl, h2, h4, fun F' e q => ⟨_, rfl, rfl, by simp only [dT, Rep]; exact ⟨l, rfl, .inr ⟨ps, q, KVs.toT (KVs.mono e h5)⟩⟩⟩⟩
  | ownK ds =>
    obtain ⟨l, ps, rfl, h2, h3, h4, h5⟩ := h
    exact ⟨l, _, rfl, h2, h4, fun F' e q => ⟨_, rfl, rfl, by simp only [dK, Rep]; exact ⟨l, rfl, .inl ⟨ps, q, KVs.toK (KVs.mono e h5)⟩⟩⟩⟩
  | un => cases ho
  | dat _ => cases ho
  | vw _ => cases ho
  | bag => cases ho
  | ext _ => cases ho
theorem frS_not (h : s.isOwn = false) : frS s = s := by cases s <;> first | rfl | cases h
theorem frS_own (s : Slot) : (frS s).isOwn = false := by cases s <;> rfl
theorem frS_vw (h : s.isVw = false) : (frS s).isVw = false := by cases s <;> first | rfl | cases h

/-- a fresh owned result is frozen, the slots stay -/
theorem StOk.freezeR (I : StOk G ρ F σ H) (R : Res G ρ F σ H r v) : ∃ F', StOk G ρ F' σ H ∧ Same F F' ∧ (∀ (l : Addr) (o : HO), F' l = some o → F l = some o ∨ (r.isOwn = true ∧ v = .ref l)) ∧ SlotOk G F' H σ (frS r) v := by
  by_cases ho : r.isOwn = true
  · obtain ⟨l, o, rfl, h2, h4, hr⟩ := own_rep R.1 ho
    obtain ⟨l', _, e1, _, h3, _⟩ := own_addr R.1 ho
    cases e1
    have e : Same F (upd F l o) := same_upd h2
    obtain ⟨d, e1, _, e2⟩ := hr (upd F l o) e upd_same
    refine ⟨upd F l o, ?_, e, (fun k u h => by
      by_cases q : k = l
      · subst q; exact .inr ⟨ho, rfl⟩
      · rw [upd_ne q] at h; exact .inl h), by rw [e1]; exact e2⟩
    refine ⟨I.len, fun i s h => ?_, I.novw, I.inj, fun k u h => ?_, I.exF.trans e, I.keep, fun k u h => ?_, fun k h => ?_⟩
    · rcases I.slot i s h with q | ⟨u, q1, q2⟩
      · exact .inl q
      · refine .inr ⟨u, q1, q2.move (I.novw i s h) e (fun _ _ _ _ q => q) fun k hk e' => ?_⟩
        subst e'
        obtain ⟨l', o', e1, f1, _⟩ := own_addr q2 hk
        cases e1
        rw [upd_ne, f1]
        rintro rfl
        exact R.2 ho i s k h hk q1 rfl
    · by_cases q : k = l
      · subst q; rw [upd_same] at h; cases h; exact h4
      · rw [upd_ne q] at h; exact I.ex k u h
    · by_cases q : k = l
      · subst q; exact .inr (.inl h3)
      · rw [upd_ne q] at h; exact I.new k u h
    · obtain ⟨q, o0, q0⟩ := I.bag k h
      refine ⟨q.mono e ?_ rfl, o0, q0⟩
      rw [upd_ne]
      · exact q.1
      · rintro rfl; rw [h3] at q0; cases q0
  · have ho : r.isOwn = false := by simpa using ho
    exact ⟨F, I, Same.refl F, fun _ _ h => .inl h, by rw [frS_not ho]; exact R.1⟩
/-- slot i is frozen where it is -/
theorem StOk.freezeS (I : StOk G ρ F σ H) (h : ρ[i]? = some s) (e : σ[i]? = some (some v)) (hs : SlotOk G F H σ s v) : ∃ F', StOk G (ρ.set i (frS s)) F' σ H ∧ Same F F' ∧ (∀ (l : Addr) (o : HO), F' l = some o → F l = some o ∨ (s.isOwn = true ∧ v = .ref l)) ∧ SlotOk G F' H σ (frS s) v := by
  by_cases ho : s.isOwn = true
  · obtain ⟨l, o, rfl, h2, h4, hr⟩ := own_rep hs ho
    obtain ⟨l', _, e1, _, h3, _⟩ := own_addr hs ho
    cases e1
    have ex : Same F (upd F l o) := same_upd h2
    obtain ⟨d, e1, _, e2⟩ := hr (upd F l o) ex upd_same
    have hi : i < ρ.length := (List.getElem?_eq_some_iff.mp h).1
    have other : ∀ j t, (ρ.set i (frS s))[j]? = some t → (i = j ∧ t = frS s) ∨ (i ≠ j ∧ ρ[j]? = some t) := fun j t q => by
      rw [List.getElem?_set] at q
      by_cases ej : i = j
      · rw [if_pos ej, if_pos hi] at q; cases q; exact .inl ⟨ej, rfl⟩
      · rw [if_neg ej] at q; exact .inr ⟨ej, q⟩
    refine ⟨upd F l o, ?_, ex, (fun k u h => by
      by_cases q : k = l
      · subst q; exact .inr ⟨ho, rfl⟩
      · rw [upd_ne q] at h; exact .inl h), by rw [e1]; exact e2⟩
    refine ⟨by rw [List.length_set]; exact I.len, fun j t q => ?_, fun j t q => ?_, fun j k t u l' q1 q2 o1 o2 => ?_, fun k u h => ?_, I.exF.trans ex, I.keep, fun k u h => ?_, fun k h => ?_⟩
    · rcases other j t q with ⟨rfl, rfl⟩ | ⟨ej, q⟩
      · exact .inr ⟨_, e, by rw [e1]; exact e2⟩
      · rcases I.slot j t q with z | ⟨u, q1, q2⟩
        · exact .inl z
        · refine .inr ⟨u, q1, q2.move (I.novw j t q) ex (fun _ _ _ _ z => z) fun k hk e' => ?_⟩
          subst e'
          obtain ⟨l', o', e1, f1, _⟩ := own_addr q2 hk
          cases e1
          rw [upd_ne, f1]
          rintro rfl
          exact ej (I.inj i j s t k h q ho hk e q1)
    · rcases other j t q with ⟨rfl, rfl⟩ | ⟨ej, q⟩
      · exact frS_vw (I.novw _ _ h)
      · exact I.novw j t q
    · rcases other j t q1 with ⟨rfl, rfl⟩ | ⟨ej, q1⟩
      · rw [frS_own] at o1; cases o1
      · rcases other k u q2 with ⟨rfl, rfl⟩ | ⟨ek, q2⟩
        · rw [frS_own] at o2; cases o2
        · exact I.inj j k t u l' q1 q2 o1 o2
    · by_cases q : k = l
      · subst q; rw [upd_same] at h; cases h; exact h4
      · rw [upd_ne q] at h; exact I.ex k u h
    · by_cases q : k = l
      · subst q; exact .inr (.inl h3)
      · rw [upd_ne q] at h; exact I.new k u h
    · obtain ⟨q, o0, q0⟩ := I.bag k h
      refine ⟨q.mono ex ?_ rfl, o0, q0⟩
      rw [upd_ne]
      · exact q.1
      · rintro rfl; rw [h3] at q0; cases q0
  · have ho : s.isOwn = false := by simpa using ho
    refine ⟨F, ?_, Same.refl F, fun _ _ h => .inl h, by rw [frS_not ho]; exact hs⟩
    have hi : i < ρ.length := (List.getElem?_eq_some_iff.mp h).1
    have e2 : ρ.set i (frS s) = ρ := by
      rw [frS_not ho]
      refine List.ext_getElem? fun j => ?_
      rw [List.getElem?_set]
      by_cases ej : i = j
      · subst ej; rw [if_pos rfl, if_pos hi, h]
      · rw [if_neg ej]
    rw [e2]; exact I
/-- any result is frozen -/
theorem StOk.freeze (I : StOk G ρ F σ H) (R : Res G ρ F σ H r v) : ∃ F', StOk G (frz ρ r).2 F' σ H ∧ Same F F' ∧
    (∀ (l : Addr) (o : HO), F' l = some o → F l = some o ∨ (r.isOwn = true ∧ v = .ref l) ∨ ∃ (i : Nat) (s : Slot), ρ[i]? = some s ∧ s.isOwn = true ∧ σ[i]? = some (some (.ref l))) ∧ SlotOk G F' H σ (frz ρ r).1 v ∧ (frz ρ r).1.isOwn = false ∧ (frz ρ r).1.isVw = false := by
  by_cases hv : r.isVw = true
  · cases r with
    | vw i =>
      have e : σ[i]? = some (some v) := R.1
      cases h : ρ[i]? with
      | none => simp only [frz, h]; exact ⟨F, I, Same.refl F, fun _ _ h => .inl h, trivial, rfl, rfl⟩
      | some s =>
        simp only [frz, h]
        rcases I.slot i s h with q | ⟨u, q1, q2⟩
        · subst q
          have hi : i < ρ.length := (List.getElem?_eq_some_iff.mp h).1
          refine ⟨F, ?_, Same.refl F, fun _ _ h => .inl h, trivial, rfl, rfl⟩
          have e2 : ρ.set i (frS .un) = ρ := by
            refine List.ext_getElem? fun j => ?_
            rw [List.getElem?_set]
            by_cases ej : i = j
            · subst ej; rw [if_pos rfl, if_pos hi, h]; rfl
            · rw [if_neg ej]
          rw [e2]; exact I
        · rw [e] at q1; cases q1
          obtain ⟨F', h1, h2, hn, h3⟩ := I.freezeS h e q2
          exact ⟨F', h1, h2, fun l o z => (hn l o z).elim .inl fun ⟨a, b⟩ => .inr (.inr ⟨i, s, h, a, by rw [e, b]⟩), h3, frS_own s, frS_vw (I.novw i s h)⟩
    | un => cases hv
    | dat _ => cases hv
    | own _ => cases hv
    | ownT _ => cases hv
    | ownK _ => cases hv
    | bag => cases hv
    | ext _ => cases hv
  · have hv : r.isVw = false := by simpa using hv
    obtain ⟨F', h1, h2, hn, h3⟩ := I.freezeR R
    have e : frz ρ r = (frS r, ρ) := by cases r <;> first | rfl | cases hv
    rw [e]
    exact ⟨F', h1, h2, fun l o z => (hn l o z).elim .inl fun q => .inr (.inl q), h3, frS_own r, frS_vw hv⟩
/-- a result read in the heap as it stands -/
theorem StOk.view (I : StOk G ρ F σ H) (R : SlotOk G F H σ r v) {d : PyData} (h : look ρ r = some d) : Rep G.K H d v := by
  have go : ∀ (t : Slot), SlotOk G F H σ t v → t.data = some d → Rep G.K H d v := fun t R q => by
    by_cases ho : t.isOwn = true
    · obtain ⟨l, o, rfl, h2, h4, hr⟩ := own_rep R ho
      obtain ⟨d', e1, e2, e3⟩ := hr H I.ex h4
      rw [q] at e2; cases e2; exact e3
    · cases t with
      | dat d' => cases q; exact Rep.mono I.ex _ _ R
      | own _ => exact absurd rfl ho
      | ownT _ => exact absurd rfl ho
      | ownK _ => exact absurd rfl ho
      | un => cases q
      | vw _ => cases q
      | bag => cases q
      | ext _ => cases q
  cases r with
  | vw i =>
    have e : σ[i]? = some (some v) := R
    simp only [look] at h
    cases q : ρ[i]? with
    | none => rw [q] at h; cases h
    | some s =>
      rw [q] at h
      rcases I.slot i s q with z | ⟨u, q1, q2⟩
      · subst z; cases h
      · rw [e] at q1; cases q1
        exact go s q2 h
  | un => cases h
  | dat _ => exact go _ R h
  | own _ => exact go _ R h
  | ownT _ => exact go _ R h
  | ownK _ => exact go _ R h
  | bag => cases h
  | ext _ => cases h
/-- a result that is no owned object lives on -/
theorem SlotOk.later {F1 H1 : Hp} (h : SlotOk G F H σ r v) (ho : r.isOwn = false) (e : Same F F1) : SlotOk G F1 H1 σ r v := by
  cases r with
  | un => trivial
  | dat d => exact Rep.mono e d v h
  | own _ => cases ho
  | ownT _ => cases ho
  | ownK _ => cases ho
  | vw _ => exact h
  | bag => exact h
  | ext φ => exact fun F'' e' => h F'' (e.trans e')
end
end DL

-- part DJ
set_option Elab.async false
set_option maxRecDepth 100000
set_option maxHeartbeats 400000
namespace DL
open PySem L2

/-! ### views, new things -/
/-- v reads as d: its own object stands in H, what it holds in F -/
def Vw (K : PySem.W.Frag) (F H : Hp) : PyData → V → Prop
  | .tuple ds, v => ∃ a vs, v = .ref a ∧ H a = some (.tup vs) ∧ Reps K F ds vs
  | .list ds, v => ∃ a vs, v = .ref a ∧ H a = some (.lst vs) ∧ Reps K F ds vs
  | .dict kvs, v => ∃ a, v = .ref a ∧ ((∃ ps, H a = some (.dK ps) ∧ RepK K F kvs ps) ∨ (∃ ps, H a = some (.dT ps) ∧ RepT K F kvs ps))
  | d, v => Rep K F d v
theorem Vw.of {K : PySem.W.Frag} {F H : Hp} (e : Same F H) {d : PyData} {v : V} (h : Rep K F d v) : Vw K F H d v := by
  cases d with
  | tuple ds => simp only [Rep] at h; obtain ⟨a, vs, h1, h2, h3⟩ := h; exact ⟨a, vs, h1, e _ _ h2, h3⟩
  | list ds => simp only [Rep] at h; obtain ⟨a, vs, h1, h2, h3⟩ := h; exact ⟨a, vs, h1, e _ _ h2, h3⟩
  | dict kvs =>
    simp only [Rep] at h
    obtain ⟨a, h1, h2⟩ := h
    rcases h2 with ⟨ps, h2, h3⟩ | ⟨ps, h2, h3⟩
    · exact ⟨a, h1, .inl ⟨ps, e _ _ h2, h3⟩⟩
    · exact ⟨a, h1, .inr ⟨ps, e _ _ h2, h3⟩⟩
  | none => exact h
  | bool _ => exact h
  | int _ => exact h
  | str _ => exact h
theorem Vw.rep {K : PySem.W.Frag} {F H : Hp} (e : Same F H) {d : PyData} {v : V} (h : Vw K F H d v) : Rep K H d v := by
  cases d with
  | tuple ds => simp only [Rep]; obtain ⟨a, vs, h1, h2, h3⟩ := h; exact ⟨a, vs, h1, h2, Reps.mono e _ _ h3⟩
  | list ds => simp only [Rep]; obtain ⟨a, vs, h1, h2, h3⟩ := h; exact ⟨a, vs, h1, h2, Reps.mono e _ _ h3⟩
  | dict kvs =>
    simp only [Rep]
    obtain ⟨a, h1, h2⟩ := h
    rcases h2 with ⟨ps, h2, h3⟩ | ⟨ps, h2, h3⟩
    · exact ⟨a, h1, .inl ⟨ps, h2, RepK.mono e _ _ h3⟩⟩
    · exact ⟨a, h1, .inr ⟨ps, h2, RepT.mono e _ _ h3⟩⟩
  | none => exact h
  | bool _ => exact h
  | int _ => exact h
  | str _ => exact h
theorem StOk.vw {G : Fr} {ρ : List Slot} {F H : Hp} {σ : St} {r : Slot} {v : V} (I : StOk G ρ F σ H) (R : SlotOk G F H σ r v) {d : PyData} (h : look ρ r = some d) : Vw G.K F H d v := by
  have go : ∀ (t : Slot), SlotOk G F H σ t v → t.data = some d → Vw G.K F H d v := fun t R q => by
    cases t with
    | dat d' => cases q; exact Vw.of I.ex R
    | own ds => cases q; obtain ⟨l, vs, rfl, h2, h3, h4, h5⟩ := R; exact ⟨l, vs, rfl, h4, h5⟩
    | ownT ds => cases q; obtain ⟨l, vs, rfl, h2, h3, h4, h5⟩ := R; exact ⟨l, rfl, .inr ⟨vs, h4, KVs.toT h5⟩⟩
    | ownK ds => cases q; obtain ⟨l, vs, rfl, h2, h3, h4, h5⟩ := R; exact ⟨l, rfl, .inl ⟨vs, h4, KVs.toK h5⟩⟩
    | un => cases q
    | vw _ => cases q
    | bag => cases q
    | ext _ => cases q
  cases r with
  | vw i =>
    have e : σ[i]? = some (some v) := R
    simp only [look] at h
    cases q : ρ[i]? with
    | none => rw [q] at h; cases h
    | some s =>
      rw [q] at h
      rcases I.slot i s q with z | ⟨u, q1, q2⟩
      · subst z; cases h
      · rw [e] at q1; cases q1
        exact go s q2 h
  | un => cases h
  | dat _ => exact go _ R h
  | own _ => exact go _ R h
  | ownT _ => exact go _ R h
  | ownK _ => exact go _ R h
  | bag => cases h
  | ext _ => cases h

/-- a result behind an operation that freezes more (F') -/
inductive OutR (K : PySem.W.Frag) (F' H H' : Hp) : Slot → V → Prop
  | dat {d : PyData} {v : V} (h : Rep K F' d v) : OutR K F' H H' (.dat d) v
  | own {l : Addr} {ds : List PyData} {vs : List V} (hl : H l = none) (hF : F' l = none) (h' : H' l = some (.lst vs)) (h : Reps K F' ds vs) : OutR K F' H H' (.own ds) (.ref l)
  | ownT {l : Addr} {ds : List (List Key × PyData)} {vs : List (List Key × V)} (hl : H l = none) (hF : F' l = none) (h' : H' l = some (.dT vs)) (h : KVs K F' ds vs) : OutR K F' H H' (.ownT ds) (.ref l)
  | ownK {l : Addr} {ds : List (Key × PyData)} {vs : List (Key × V)} (hl : H l = none) (hF : F' l = none) (h' : H' l = some (.dK vs)) (h : KVs K F' ds vs) : OutR K F' H H' (.ownK ds) (.ref l)
/-- what an operation hands on: data, or a new object -/
inductive Out (K : PySem.W.Frag) (F H : Hp) : Hp → Slot → V → Prop
  | dat {d : PyData} {v : V} (h : Rep K F d v) : Out K F H H (.dat d) v
  | lst {p : Addr} {ds : List PyData} {vs : List V} (hp : H p = none) (h : Reps K F ds vs) : Out K F H (upd H p (.lst vs)) (.own ds) (.ref p)
  | tup {p : Addr} {ds : List PyData} {vs : List V} (hp : H p = none) (h : Reps K F ds vs) : Out K F H (upd H p (.tup vs)) (.dat (.tuple ds)) (.ref p)
  | dT {p : Addr} {ds : List (List Key × PyData)} {vs : List (List Key × V)} (hp : H p = none) (h : KVs K F ds vs) : Out K F H (upd H p (.dT vs)) (.ownT ds) (.ref p)
  | dK {p : Addr} {ds : List (Key × PyData)} {vs : List (Key × V)} (hp : H p = none) (h : KVs K F ds vs) : Out K F H (upd H p (.dK vs)) (.ownK ds) (.ref p)
  | gen {F' H' : Hp} {r : Slot} {v : V} (e : Same F F') (x : Same F' H') (k : Same H H') (n : ∀ (l : Addr) (o : HO), F' l = some o → F l = some o ∨ H l = none ∨ Imm o) (h : OutR K F' H H' r v) : Out K F H H' r v

/-- what an expression leaves: F grows, what is neither the bag nor owned by a slot is kept, no slot comes to own; what is newly frozen is new or was a slot's -/
structure Step (G : Fr) (ρ : List Slot) (F : Hp) (σ : St) (H : Hp) (ρ' : List Slot) (F' H' : Hp) : Prop where
  f : Same F F'
  k : ∀ (l : Addr) (o : HO), H l = some o → G.b ≠ some l → (∀ (j : Nat) (s : Slot), ρ[j]? = some s → s.isOwn = true → σ[j]? ≠ some (some (.ref l))) → H' l = some o
  s : ∀ (j : Nat) (s' : Slot), ρ'[j]? = some s' → s'.isOwn = true → ∃ s, ρ[j]? = some s ∧ s.isOwn = true
  n : ∀ (l : Addr) (o : HO), F' l = some o → F l = some o ∨ H l = none ∨ (∃ (j : Nat) (s : Slot), ρ[j]? = some s ∧ s.isOwn = true ∧ σ[j]? = some (some (.ref l))) ∨ Imm o
  th : ∀ (l : Addr), H' l = none → H l = none
theorem Step.refl {G : Fr} {ρ : List Slot} {F : Hp} {σ : St} {H : Hp} : Step G ρ F σ H ρ F H := ⟨Same.refl F, fun _ _ h _ _ => h, fun _ s' h o => ⟨s', h, o⟩, fun _ _ h => .inl h, fun _ h => h⟩
theorem Step.trans {G : Fr} {ρ ρ1 ρ2 : List Slot} {F F1 F2 : Hp} {σ : St} {H H1 H2 : Hp} (a : Step G ρ F σ H ρ1 F1 H1) (b : Step G ρ1 F1 σ H1 ρ2 F2 H2) : Step G ρ F σ H ρ2 F2 H2 :=
  ⟨a.f.trans b.f, fun l o h hb hn => b.k l o (a.k l o h hb hn) hb fun j s h1 h2 => let ⟨s0, h3, h4⟩ := a.s j s h1 h2; hn j s0 h3 h4, fun j s' h o => let ⟨s1, h1, o1⟩ := b.s j s' h o; a.s j s1 h1 o1,
   fun l o h => by
    rcases b.n l o h with z | z | ⟨j, s, z1, z2, z3⟩ | z
    · exact a.n l o z
    · exact .inr (.inl (a.th l z))
    · obtain ⟨s0, y1, y2⟩ := a.s j s z1 z2
      exact .inr (.inr (.inl ⟨j, s0, y1, y2, z3⟩))
    · exact .inr (.inr (.inr z)), fun l h => a.th l (b.th l h)⟩
theorem Step.same {G : Fr} {ρ : List Slot} {F F' : Hp} {σ : St} {H H' : Hp} (e : Same F F') (k : Same H H') (n : ∀ (l : Addr) (o : HO), F' l = some o → F l = some o ∨ H l = none ∨ Imm o) : Step G ρ F σ H ρ F' H' :=
  ⟨e, fun l o h _ _ => k l o h, fun _ s' h o => ⟨s', h, o⟩, fun l o h => (n l o h).elim .inl fun z => z.elim (fun z => .inr (.inl z)) fun z => .inr (.inr (.inr z)), fun l h => by
    cases q : H l with
    | none => rfl
    | some o => rw [k l o q] at h; cases h⟩
/-- an owned result is newer than the start -/
def Fresh (H : Hp) (r : Slot) (v : V) : Prop := r.isOwn = true → ∀ l, v = .ref l → H l = none
theorem Fresh.no {H : Hp} {r : Slot} {v : V} (h : r.isOwn = false) : Fresh H r v := fun z => by rw [h] at z; cases z
theorem Fresh.back {G : Fr} {ρ ρ1 : List Slot} {F F1 : Hp} {σ : St} {H H1 : Hp} {r : Slot} {v : V} (e : Step G ρ F σ H ρ1 F1 H1) (h : Fresh H1 r v) : Fresh H r v := fun z l q => e.th l (h z l q)

section
variable {G : Fr} {ρ ρ1 : List Slot} {F F1 H H1 H' : Hp} {σ : St} {r : Slot} {v : V}
theorem fresh_res (I : StOk G ρ F σ H) {p : Addr} (hp : H p = none) {o : HO} : ∀ (i : Nat) (s : Slot) (l : Addr), ρ[i]? = some s → s.isOwn = true → σ[i]? = some (some (.ref l)) → V.ref p ≠ .ref l := fun i s l h ho e z => by
  cases z
  exact I.own_ne hp h ho e rfl
theorem upd_new {p : Addr} {o : HO} (hp : H p = none) : ∀ (l : Addr) (u : HO), upd F p o l = some u → F l = some u ∨ H l = none ∨ Imm u := fun l u h => by
  by_cases e : l = p
  · subst e; exact .inr (.inl hp)
  · rw [upd_ne e] at h; exact .inl h
theorem Out.ok (I : StOk G ρ F σ H) (o : Out G.K F H H' r v) : ∃ F', StOk G ρ F' σ H' ∧ Step G ρ F σ H ρ F' H' ∧ Res G ρ F' σ H' r v ∧ Fresh H r v := by
  cases o with
  | dat h => exact ⟨F, I, Step.refl, ⟨h, fun z => by cases z⟩, Fresh.no rfl⟩
  | @lst p ds vs hp h => exact ⟨F, I.alloc hp, Step.same (Same.refl F) (same_upd hp) fun _ _ h => .inl h, ⟨⟨p, vs, rfl, I.freeF hp, I.free0 hp, upd_same, h⟩, fun _ => fresh_res (o := .lst vs) I hp⟩, fun _ l e => by cases e; exact hp⟩
  | @tup p ds vs hp h =>
    refine ⟨upd F p (.tup vs), I.allocF hp, Step.same (same_upd (I.freeF hp)) (same_upd hp) (upd_new hp), ⟨?_, fun z => by cases z⟩, Fresh.no rfl⟩
    show Rep _ _ (.tuple ds) _
    simp only [Rep]
    exact ⟨p, vs, rfl, upd_same, Reps.mono (same_upd (I.freeF hp)) _ _ h⟩
  | @dT p ds vs hp h => exact ⟨F, I.alloc hp, Step.same (Same.refl F) (same_upd hp) fun _ _ h => .inl h, ⟨⟨p, vs, rfl, I.freeF hp, I.free0 hp, upd_same, h⟩, fun _ => fresh_res (o := .dT vs) I hp⟩, fun _ l e => by cases e; exact hp⟩
  | @dK p ds vs hp h => exact ⟨F, I.alloc hp, Step.same (Same.refl F) (same_upd hp) fun _ _ h => .inl h, ⟨⟨p, vs, rfl, I.freeF hp, I.free0 hp, upd_same, h⟩, fun _ => fresh_res (o := .dK vs) I hp⟩, fun _ l e => by cases e; exact hp⟩
  | @gen F' H' r v e x k n h =>
    have fr : ∀ (l : Addr), H l = none → ∀ (i : Nat) (s : Slot) (l' : Addr), ρ[i]? = some s → s.isOwn = true → σ[i]? = some (some (.ref l')) → V.ref l ≠ .ref l' := fun l hl => fresh_res (o := .lst []) I hl
    refine ⟨F', I.grow e x (fun l o h _ => k l o h) n (I.bagKeep e x k n), Step.same e k n, ?_⟩
    cases h with
    | dat h => exact ⟨⟨h, fun z => by cases z⟩, Fresh.no rfl⟩
    | own hl hF h' h => exact ⟨⟨⟨_, _, rfl, hF, I.free0 hl, h', h⟩, fun _ => fr _ hl⟩, fun _ l e => by cases e; exact hl⟩
    | ownT hl hF h' h => exact ⟨⟨⟨_, _, rfl, hF, I.free0 hl, h', h⟩, fun _ => fr _ hl⟩, fun _ l e => by cases e; exact hl⟩
    | ownK hl hF h' h => exact ⟨⟨⟨_, _, rfl, hF, I.free0 hl, h', h⟩, fun _ => fr _ hl⟩, fun _ l e => by cases e; exact hl⟩
/-- freezing is a step -/
theorem frz_sub {ρ : List Slot} {r : Slot} : ∀ (j : Nat) (s' : Slot), (frz ρ r).2[j]? = some s' → s'.isOwn = true → ∃ s, ρ[j]? = some s ∧ s.isOwn = true := fun j s' h o => by
  cases r with
  | vw i =>
    cases q : ρ[i]? with
    | none => simp only [frz, q] at h; exact ⟨s', h, o⟩
    | some s =>
      simp only [frz, q] at h
      rw [List.getElem?_set] at h
      by_cases e : i = j
      · rw [if_pos e] at h
        split at h
        · cases h; rw [frS_own] at o; cases o
        · cases h
      · rw [if_neg e] at h; exact ⟨s', h, o⟩
  | un => exact ⟨s', h, o⟩
  | dat _ => exact ⟨s', h, o⟩
  | own _ => exact ⟨s', h, o⟩
  | ownT _ => exact ⟨s', h, o⟩
  | ownK _ => exact ⟨s', h, o⟩
  | bag => exact ⟨s', h, o⟩
  | ext _ => exact ⟨s', h, o⟩
theorem StOk.freezeP (I : StOk G ρ1 F1 σ H1) (R : Res G ρ1 F1 σ H1 r v) (e : Step G ρ F σ H ρ1 F1 H1) (fr : Fresh H r v) :
    ∃ F', StOk G (frz ρ1 r).2 F' σ H1 ∧ Step G ρ F σ H (frz ρ1 r).2 F' H1 ∧ Same F1 F' ∧ SlotOk G F' H1 σ (frz ρ1 r).1 v ∧ (frz ρ1 r).1.isOwn = false ∧ (frz ρ1 r).1.isVw = false := by
  obtain ⟨F', a, b, n, c⟩ := I.freeze R
  refine ⟨F', a, ⟨e.f.trans b, e.k, fun j s' h o => ?_, fun l o h => ?_, e.th⟩, b, c⟩
  · obtain ⟨s1, h1, o1⟩ := frz_sub j s' h o
    exact e.s j s1 h1 o1
  · rcases n l o h with z | ⟨ho, hv⟩ | ⟨i, s, h1, h2, h3⟩
    · exact e.n l o z
    · exact .inr (.inl (fr ho l hv))
    · obtain ⟨s0, y1, y2⟩ := e.s i s h1 h2
      exact .inr (.inr (.inl ⟨i, s0, y1, y2, h3⟩))
theorem StOk.heldP (I : StOk G ρ1 F1 σ H1) (R : Res G ρ1 F1 σ H1 r v) (e : Step G ρ F σ H ρ1 F1 H1) (fr : Fresh H r v) :
    ∃ F', StOk G ρ1 F' σ H1 ∧ Step G ρ F σ H ρ1 F' H1 ∧ Same F1 F' ∧ SlotOk G F' H1 σ (frS r) v ∧ (frS r).isOwn = false := by
  obtain ⟨F', a, b, n, c⟩ := I.freezeR R
  refine ⟨F', a, ⟨e.f.trans b, e.k, e.s, fun l o h => ?_, e.th⟩, b, c, frS_own r⟩
  rcases n l o h with z | ⟨ho, hv⟩
  · exact e.n l o z
  · exact .inr (.inl (fr ho l hv))
end

/-! ### the judgements -/
abbrev XC := Addr → List (Str × PyData) → List Slot → Prop
abbrev DTE := List Slot → (Slot → List Slot → Prop) → Prop
abbrev DTT := List Slot → (Bool → List Slot → Prop) → Prop
abbrev DTA := List Slot → (List Slot → List Slot → Prop) → Prop
def XOk (W : WX) (xc : XC) (G : Fr) : Prop := ∀ (C : Addr) (fs : List (Str × PyData)) (ρ : List Slot) (F : Hp) (σ : St) (H : Hp) (d : Addr) (vfs : List (Str × V)),
  xc C fs ρ → StOk G ρ F σ H → H d = some (.xd vfs) → KVs G.K F fs vfs → W (.ref C) (some d) σ H
def SimE (K : PySem.W.Frag) (W : WX) (xc : XC) (te : TE) (t : DTE) : Prop := ∀ (G : Fr) (ρ : List Slot) (F : Hp) (σ : St) (H : Hp) (Q : Slot → List Slot → Prop) (QQ : VK), G.K = K → XOk W xc G → StOk G ρ F σ H → t ρ Q →
  (∀ (v : V) (r : Slot) (ρ' : List Slot) (F' H' : Hp), Q r ρ' → StOk G ρ' F' σ H' → Res G ρ' F' σ H' r v → Step G ρ F σ H ρ' F' H' → Fresh H r v → QQ v H') → te σ H QQ
def SimT (K : PySem.W.Frag) (W : WX) (xc : XC) (te : TT) (t : DTT) : Prop := ∀ (G : Fr) (ρ : List Slot) (F : Hp) (σ : St) (H : Hp) (Q : Bool → List Slot → Prop) (QQ : Bool → Hp → Prop), G.K = K → XOk W xc G → StOk G ρ F σ H → t ρ Q →
  (∀ (b : Bool) (ρ' : List Slot) (F' H' : Hp), Q b ρ' → StOk G ρ' F' σ H' → Step G ρ F σ H ρ' F' H' → QQ b H') → te σ H QQ
/-- several results: none is an owned object -/
def AllOk (G : Fr) (F H : Hp) (σ : St) : List Slot → List V → Prop
  | [], vs => vs = []
  | r :: rs, vs => ∃ v ws, vs = v :: ws ∧ r.isOwn = false ∧ SlotOk G F H σ r v ∧ AllOk G F H σ rs ws
theorem AllOk.later {G : Fr} {F H F1 H1 : Hp} {σ : St} (e : Same F F1) : ∀ {rs : List Slot} {vs : List V}, AllOk G F H σ rs vs → AllOk G F1 H1 σ rs vs
  | [], _, h => h
  | r :: rs, vs, ⟨v, ws, h1, h2, h3, h4⟩ => ⟨v, ws, h1, h2, h3.later h2 e, h4.later e⟩
def SimA (K : PySem.W.Frag) (W : WX) (xc : XC) (te : TA) (t : DTA) : Prop := ∀ (G : Fr) (ρ : List Slot) (F : Hp) (σ : St) (H : Hp) (Q : List Slot → List Slot → Prop) (QQ : List V → Hp → Prop), G.K = K → XOk W xc G → StOk G ρ F σ H → t ρ Q →
  (∀ (vs : List V) (rs : List Slot) (ρ' : List Slot) (F' H' : Hp), Q rs ρ' → StOk G ρ' F' σ H' → AllOk G F' H' σ rs vs → Step G ρ F σ H ρ' F' H' → QQ vs H') → te σ H QQ
structure DE (X : Cx) (W : WX) (xc : XC) (e : Expr) (te : TE) (t : DTE) : Prop where
  p : PE X e te
  s : SimE X.K W xc te t
structure DC (X : Cx) (W : WX) (xc : XC) (e : Expr) (te : TT) (t : DTT) : Prop where
  p : PT X e te
  s : SimT X.K W xc te t
structure DW (X : Cx) (W : WX) (xc : XC) (e : Expr) (te : TT) (t : DTT) : Prop where
  p : PW X e te
  s : SimT X.K W xc te t
structure DA (X : Cx) (W : WX) (xc : XC) (es : List Expr) (te : TA) (t : DTA) : Prop where
  p : PA X es te
  s : SimA X.K W xc te t

structure DEnds where
  nx : List Slot → Prop
  rt : Slot → List Slot → Prop
  bk : List Slot → Prop := fun _ => False
  ct : List Slot → Prop := fun _ => False
abbrev DTS := DEnds → List Slot → Prop
structure EndsOk (G : Fr) (F : Hp) (D : DEnds) (DD : Ends) : Prop where
  nx : ∀ (ρ' : List Slot) (F' : Hp) (σ' : St) (H' : Hp), D.nx ρ' → StOk G ρ' F' σ' H' → Same F F' → DD.nx σ' H'
  rt : ∀ (v : V) (r : Slot) (ρ' : List Slot) (F' : Hp) (σ' : St) (H' : Hp), D.rt r ρ' → StOk G ρ' F' σ' H' → Res G ρ' F' σ' H' r v → r.isVw = false → Same F F' → DD.rt v H'
  bk : ∀ (ρ' : List Slot) (F' : Hp) (σ' : St) (H' : Hp), D.bk ρ' → StOk G ρ' F' σ' H' → Same F F' → DD.bk σ' H'
  ct : ∀ (ρ' : List Slot) (F' : Hp) (σ' : St) (H' : Hp), D.ct ρ' → StOk G ρ' F' σ' H' → Same F F' → DD.ct σ' H'
theorem EndsOk.later {G : Fr} {F F1 : Hp} {D : DEnds} {DD : Ends} (h : EndsOk G F D DD) (e : Same F F1) : EndsOk G F1 D DD :=
  ⟨fun a b c d x y z => h.nx a b c d x y (e.trans z), fun a b c d f g x y z u w => h.rt a b c d f g x y z u (e.trans w), fun a b c d x y z => h.bk a b c d x y (e.trans z), fun a b c d x y z => h.ct a b c d x y (e.trans z)⟩
def SimS (K : PySem.W.Frag) (W : WX) (xc : XC) (ts : TS) (t : DTS) : Prop := ∀ (G : Fr) (ρ : List Slot) (F : Hp) (σ : St) (H : Hp) (D : DEnds) (DD : Ends), G.K = K → XOk W xc G → StOk G ρ F σ H → t D ρ → EndsOk G F D DD → ts DD σ H
structure DS (X : Cx) (W : WX) (xc : XC) (st : Stmt) (ts : TS) (t : DTS) : Prop where
  p : PS X st ts
  s : SimS X.K W xc ts t
structure DSs (X : Cx) (W : WX) (xc : XC) (st : List Stmt) (ts : TS) (t : DTS) : Prop where
  p : PSs X st ts
  s : SimS X.K W xc ts t

def withD (o : Option PyData) (k : PyData → Prop) : Prop := match o with
  | some d => k d
  | none => False
theorem withD.out {o : Option PyData} {k : PyData → Prop} (h : withD o k) : ∃ d, o = some d ∧ k d := by
  cases o with
  | none => exact h.elim
  | some d => exact ⟨d, rfl, h⟩

section
variable {X : Cx} {W : WX} {xc : XC} {a b c e : Expr} {es : List Expr} {ua ub : TE} {ut uu : TT} {ul : TA} {ta tb tc : DTE} {tt tu tw : DTT} {tl : DTA} {pos : Pos}

/-! ### names, constants -/
def useS (i : Nat) (s : Slot) : Slot := match s with
  | .own _ => .vw i
  | .ownT _ => .vw i
  | .ownK _ => .vw i
  | s => s
def dVar (i : Nat) : DTE := fun ρ Q => match ρ[i]? with
  | none => False
  | some .un => False
  | some s => Q (useS i s) ρ
theorem useS_own (i : Nat) (s : Slot) : (useS i s).isOwn = false := by cases s <;> rfl
theorem useS_ok {G : Fr} {F H : Hp} {σ : St} {i : Nat} {s : Slot} {v : V} (h : SlotOk G F H σ s v) (e : σ[i]? = some (some v)) : SlotOk G F H σ (useS i s) v := by
  cases s <;> first | exact h | exact e
theorem sim_var {K : PySem.W.Frag} (i : Nat) : SimE K W xc (tVar i) (dVar i) := by
  intro G ρ F σ H Q QQ hK hx I h k
  unfold dVar at h
  cases q : ρ[i]? with
  | none => rw [q] at h; exact h.elim
  | some s =>
    rw [q] at h
    have hu : s ≠ .un := by rintro rfl; exact h
    have h' : Q (useS i s) ρ := by cases s <;> first | exact h | exact h.elim
    obtain ⟨v, e, hs⟩ := I.at q hu
    exact ⟨v, e, k v _ ρ F H h' I ⟨useS_ok hs e, fun z => by rw [useS_own] at z; cases z⟩ Step.refl (Fresh.no (useS_own i s))⟩
theorem de_var (i : Nat) {x : Str} (hN : X.N[i]? = some x := by rfl) (hv : Vis X.env.scope x := by first | exact Or.inl rfl | exact Or.inr (Or.inl rfl) | exact Or.inr (Or.inr rfl)) (hd : (x == ("__debug__" : Str)) = false := by decide)
    (hcd : (x == ("__classdict__" : Str)) = false := by decide) : DE X W xc (.Name x pos) (tVar i) (dVar i) := ⟨pv i hN hv hd hcd, sim_var i⟩
def dC (d : PyData) : DTE := fun ρ Q => Q (.dat d) ρ
theorem sim_c {K : PySem.W.Frag} {d : PyData} {v : V} (h : ∀ F, Rep K F d v) : SimE K W xc (tC v) (dC d) := fun G ρ F σ H Q QQ hK hx I q k => by
  subst hK
  exact k v _ ρ F H q I ⟨h F, fun z => by cases z⟩ Step.refl (Fresh.no rfl)
theorem de_int {i j} : DE X W xc (.Constant (.int i) j pos) (tC (.int i)) (dC (.int i)) := ⟨pe_int, sim_c fun F => by simp only [Rep]⟩
theorem de_bl {i j} : DE X W xc (.Constant (.bool i) j pos) (tC (.bl i)) (dC (.bool i)) := ⟨pe_bl, sim_c fun F => by simp only [Rep]⟩
theorem de_non {j} : DE X W xc (.Constant .none j pos) (tC .non) (dC .none) := ⟨pe_non, sim_c fun F => by simp only [Rep]⟩
theorem de_str {i j} : DE X W xc (.Constant (.str i) j pos) (tC (.str i)) (dC (.str i)) := ⟨pe_str, sim_c fun F => by simp only [Rep]⟩
/-- a constant of the module -/
theorem de_glob {x : Str} {v : V} {u : Value} {d : PyData} (hg : Gl X x) (hm : X.mg x = some u) (r : RelV v u) (h : ∀ F, Rep X.K F d v) (hd : (x == ("__debug__" : Str)) = false := by decide) : DE X W xc (.Name x pos) (tC v) (dC d) := ⟨pe_glob hg hm r hd, sim_c h⟩

/-! ### operators -/
def OpD (K : PySem.W.Frag) (r : R2) (o : PyData → PyData → (Slot → Prop) → Prop) : Prop := ∀ (F H : Hp) (x y : V) (dx dy : PyData) (q : Slot → Prop) (QQ : VK), Same F H → Vw K F H dx x → Vw K F H dy y → o dx dy q →
  (∀ (v : V) (r' : Slot) (H' : Hp), q r' → Out K F H H' r' v → QQ v H') → r x y H QQ
def dBin (o : PyData → PyData → (Slot → Prop) → Prop) (ta tb : DTE) : DTE := fun ρ Q => ta ρ fun r1 ρ1 => tb ρ1 fun r2 ρ2 => withD (look ρ2 (frS r1)) fun d1 => withD (look ρ2 r2) fun d2 => o d1 d2 fun r => Q r ρ2
theorem sim_bin {K : PySem.W.Frag} {r : R2} {o : PyData → PyData → (Slot → Prop) → Prop} {ua ub : TE} (ho : OpD K r o) (ha : SimE K W xc ua ta) (hb : SimE K W xc ub tb) : SimE K W xc (tOp r ua ub) (dBin o ta tb) := by
  intro G ρ F σ H Q QQ hK hx I h k
  refine ha G ρ F σ H _ _ hK hx I h fun x r1 ρ1 F1 H1 h I1 R1 e1 f1 => ?_
  obtain ⟨F1', I1', e1', _, S1, o1⟩ := I1.heldP R1 e1 f1
  refine hb G ρ1 F1' σ H1 _ _ hK hx I1' h fun y r2 ρ2 F2 H2 h I2 R2 e2 f2 => ?_
  obtain ⟨d1, l1, h⟩ := h.out
  obtain ⟨d2, l2, h⟩ := h.out
  subst hK
  refine ho F2 H2 x y d1 d2 _ _ I2.ex (I2.vw (S1.later o1 e2.f) l1) (I2.vw R2.1 l2) h fun v r' H' q o => ?_
  obtain ⟨F3, I3, e3, R3, f3⟩ := o.ok I2
  exact k v r' ρ2 F3 H' q I3 R3 ((e1'.trans e2).trans e3) (f3.back (e1'.trans e2))
theorem de_bin {op : Operator} {r : R2} {o : PyData → PyData → (Slot → Prop) → Prop} (hr : OpR X (binaryOp op) r) (ho : OpD X.K r o) (ha : DE X W xc a ua ta) (hb : DE X W xc b ub tb) : DE X W xc (.BinOp a op b pos) (tOp r ua ub) (dBin o ta tb) := ⟨pe_op hr ha.p hb.p, sim_bin ho ha.s hb.s⟩
theorem de_cmp {op : CmpOp} {r : R2} {o : PyData → PyData → (Slot → Prop) → Prop} (hr : OpR X (compareOp op) r) (ho : OpD X.K r o) (ha : DE X W xc a ua ta) (hb : DE X W xc b ub tb) (hm : behindInMarks op b = false) : DE X W xc (.Compare a [op] [b] pos) (tOp r ua ub) (dBin o ta tb) := ⟨pe_cmpR hr ha.p hb.p hm, sim_bin ho ha.s hb.s⟩
theorem OpR.any {f : Value → Value → Sem Value} {r r' : R2} (h : OpR X f r) (i : ∀ x y H Q, r' x y H Q → r x y H Q) : OpR X f r' := fun pins s σ H x y v u Q I rx ry q => h pins s σ H x y v u Q I rx ry (i x y H Q q)

/-! ### tests -/
def dTest (t : DTE) : DTT := fun ρ Q => t ρ fun r ρ' => withD (look ρ' r) fun d => match d with
  | .bool b => Q b ρ'
  | _ => False
theorem sim_test {K : PySem.W.Frag} {ua : TE} (h : SimE K W xc ua ta) : SimT K W xc (tB ua) (dTest ta) := by
  intro G ρ F σ H Q QQ hK hx I q k
  refine h G ρ F σ H _ _ hK hx I q fun v r ρ1 F1 H1 q I1 R1 e1 f1 => ?_
  obtain ⟨d, l, q⟩ := q.out
  have z := I1.vw R1.1 l
  cases d with
  | bool b => exact ⟨b, (show v = .bl b by simpa only [Vw, Rep] using z), k b ρ1 F1 H1 q I1 e1⟩
  | none => exact q.elim
  | int _ => exact q.elim
  | str _ => exact q.elim
  | list _ => exact q.elim
  | tuple _ => exact q.elim
  | dict _ => exact q.elim
/-- an expression whose value is True or False -/
theorem dc_val (h : DE X W xc e ua ta) (he : ∀ whole, isTrue e X.env whole = (do let v ← whole; standAt e.pos; holding [v] (truthy v)) := by intro _; rfl) : DC X W xc e (tB ua) (dTest ta) := ⟨pt_val h.p he, sim_test h.s⟩
theorem dc_cmp {op : CmpOp} {r : R2} {o : PyData → PyData → (Slot → Prop) → Prop} (hr : OpR X (compareOp op) r) (ho : OpD X.K r o) (ha : DE X W xc a ua ta) (hb : DE X W xc b ub tb) (hm : behindInMarks op b = false) : DC X W xc (.Compare a [op] [b] pos) (tTest (tOp r ua ub)) (dTest (dBin o ta tb)) := ⟨pt_cmpR hr ha.p hb.p hm, sim_test (sim_bin ho ha.s hb.s)⟩
def dAnd (t u : DTT) : DTT := fun ρ Q => t ρ fun b ρ1 => if b = true then u ρ1 Q else Q false ρ1
def dOr (t u : DTT) : DTT := fun ρ Q => t ρ fun b ρ1 => if b = true then Q true ρ1 else u ρ1 Q
def dNot (t : DTT) : DTT := fun ρ Q => t ρ fun b ρ1 => Q (!b) ρ1
theorem sim_and {K : PySem.W.Frag} {ut uu : TT} (h1 : SimT K W xc ut tt) (h2 : SimT K W xc uu tu) : SimT K W xc (tAnd ut uu) (dAnd tt tu) := by
  intro G ρ F σ H Q QQ hK hx I q k
  refine h1 G ρ F σ H _ _ hK hx I q fun b ρ1 F1 H1 q I1 e1 => ?_
  cases b with
  | true => exact h2 G ρ1 F1 σ H1 _ _ hK hx I1 q fun b ρ2 F2 H2 q I2 e2 => k b ρ2 F2 H2 q I2 (e1.trans e2)
  | false => exact k false ρ1 F1 H1 q I1 e1
theorem sim_or {K : PySem.W.Frag} {ut uu : TT} (h1 : SimT K W xc ut tt) (h2 : SimT K W xc uu tu) : SimT K W xc (tOr ut uu) (dOr tt tu) := by
  intro G ρ F σ H Q QQ hK hx I q k
  refine h1 G ρ F σ H _ _ hK hx I q fun b ρ1 F1 H1 q I1 e1 => ?_
  cases b with
  | false => exact h2 G ρ1 F1 σ H1 _ _ hK hx I1 q fun b ρ2 F2 H2 q I2 e2 => k b ρ2 F2 H2 q I2 (e1.trans e2)
  | true => exact k true ρ1 F1 H1 q I1 e1
theorem sim_not {K : PySem.W.Frag} {ut : TT} (h1 : SimT K W xc ut tt) : SimT K W xc (tNot ut) (dNot tt) := by
  intro G ρ F σ H Q QQ hK hx I q k
  exact h1 G ρ F σ H _ _ hK hx I q fun b ρ1 F1 H1 q I1 e1 => k (!b) ρ1 F1 H1 q I1 e1
theorem dw_and1 (h : DC X W xc a ut tt) : DW X W xc (.BoolOp .And [a] pos) ut tt := ⟨pw_and1 h.p, h.s⟩
theorem dw_or1 (h : DC X W xc a ut tt) : DW X W xc (.BoolOp .Or [a] pos) ut tt := ⟨pw_or1 h.p, h.s⟩
theorem dw_and (h : DC X W xc a ut tt) (h2 : DW X W xc (.BoolOp .And (b :: es) pos) uu tu) : DW X W xc (.BoolOp .And (a :: b :: es) pos) (tAnd ut uu) (dAnd tt tu) := ⟨pw_and h.p h2.p, sim_and h.s h2.s⟩
theorem dw_or (h : DC X W xc a ut tt) (h2 : DW X W xc (.BoolOp .Or (b :: es) pos) uu tu) : DW X W xc (.BoolOp .Or (a :: b :: es) pos) (tOr ut uu) (dOr tt tu) := ⟨pw_or h.p h2.p, sim_or h.s h2.s⟩
theorem dc_w (h : DW X W xc e ut tt) : DC X W xc e ut tt := ⟨h.p.pt, h.s⟩
theorem dc_not (h : DC X W xc a ut tt) : DC X W xc (.UnaryOp .Not a pos) (tNot ut) (dNot tt) := ⟨pt_not h.p, sim_not h.s⟩
def dIf (t : DTT) (ta tb : DTE) : DTE := fun ρ Q => t ρ fun b ρ1 => if b = true then ta ρ1 Q else tb ρ1 Q
theorem sim_if {K : PySem.W.Frag} {ut : TT} {ua ub : TE} (h1 : SimT K W xc ut tt) (ha : SimE K W xc ua ta) (hb : SimE K W xc ub tb) : SimE K W xc (tIf ut ua ub) (dIf tt ta tb) := by
  intro G ρ F σ H Q QQ hK hx I q k
  refine h1 G ρ F σ H _ _ hK hx I q fun b ρ1 F1 H1 q I1 e1 => ?_
  cases b with
  | true => exact ha G ρ1 F1 σ H1 _ _ hK hx I1 q fun v r ρ2 F2 H2 q I2 R e2 f2 => k v r ρ2 F2 H2 q I2 R (e1.trans e2) (f2.back e1)
  | false => exact hb G ρ1 F1 σ H1 _ _ hK hx I1 q fun v r ρ2 F2 H2 q I2 R e2 f2 => k v r ρ2 F2 H2 q I2 R (e1.trans e2) (f2.back e1)
theorem de_if (hc : DC X W xc c ut tt) (ha : DE X W xc a ua ta) (hb : DE X W xc b ub tb) : DE X W xc (.IfExp c a b pos) (tIf ut ua ub) (dIf tt ta tb) := ⟨pe_ifExp hc.p ha.p hb.p, sim_if hc.s ha.s hb.s⟩
/-- and, or, not as values (True, False) -/
def dAndV (ta tb : DTE) : DTE := fun ρ Q => ta ρ fun r ρ1 => withD (look ρ1 r) fun d => match d with
  | .bool b => if b = true then tb ρ1 Q else Q (.dat (.bool false)) ρ1
  | _ => False
def dOrV (ta tb : DTE) : DTE := fun ρ Q => ta ρ fun r ρ1 => withD (look ρ1 r) fun d => match d with
  | .bool b => if b = true then Q (.dat (.bool true)) ρ1 else tb ρ1 Q
  | _ => False
def dNotV (ta : DTE) : DTE := fun ρ Q => ta ρ fun r ρ1 => withD (look ρ1 r) fun d => match d with
  | .bool b => Q (.dat (.bool (!b))) ρ1
  | _ => False
theorem sim_andV {K : PySem.W.Frag} {ua ub : TE} (ha : SimE K W xc ua ta) (hb : SimE K W xc ub tb) : SimE K W xc (tAndV ua ub) (dAndV ta tb) := by
  intro G ρ F σ H Q QQ hK hx I q k
  refine ha G ρ F σ H _ _ hK hx I q fun v r ρ1 F1 H1 q I1 R1 e1 f1 => ?_
  obtain ⟨d, l, q⟩ := q.out
  have z := I1.vw R1.1 l
  cases d with
  | bool b =>
    refine ⟨b, (show v = .bl b by simpa only [Vw, Rep] using z), ?_⟩
    cases b with
    | true => exact hb G ρ1 F1 σ H1 _ _ hK hx I1 q fun v r ρ2 F2 H2 q I2 R e2 f2 => k v r ρ2 F2 H2 q I2 R (e1.trans e2) (f2.back e1)
    | false => exact k _ _ ρ1 F1 H1 q I1 ⟨by show Rep _ _ _ _; simp only [Rep], fun z => by cases z⟩ e1 (Fresh.no rfl)
  | none => exact q.elim
  | int _ => exact q.elim
  | str _ => exact q.elim
  | list _ => exact q.elim
  | tuple _ => exact q.elim
  | dict _ => exact q.elim
theorem sim_orV {K : PySem.W.Frag} {ua ub : TE} (ha : SimE K W xc ua ta) (hb : SimE K W xc ub tb) : SimE K W xc (tOrV ua ub) (dOrV ta tb) := by
  intro G ρ F σ H Q QQ hK hx I q k
  refine ha G ρ F σ H _ _ hK hx I q fun v r ρ1 F1 H1 q I1 R1 e1 f1 => ?_
  obtain ⟨d, l, q⟩ := q.out
  have z := I1.vw R1.1 l
  cases d with
  | bool b =>
    refine ⟨b, (show v = .bl b by simpa only [Vw, Rep] using z), ?_⟩
    cases b with
    | false => exact hb G ρ1 F1 σ H1 _ _ hK hx I1 q fun v r ρ2 F2 H2 q I2 R e2 f2 => k v r ρ2 F2 H2 q I2 R (e1.trans e2) (f2.back e1)
    | true => exact k _ _ ρ1 F1 H1 q I1 ⟨by show Rep _ _ _ _; simp only [Rep], fun z => by cases z⟩ e1 (Fresh.no rfl)
  | none => exact q.elim
  | int _ => exact q.elim
  | str _ => exact q.elim
  | list _ => exact q.elim
  | tuple _ => exact q.elim
  | dict _ => exact q.elim
theorem sim_notV {K : PySem.W.Frag} {ua : TE} (ha : SimE K W xc ua ta) : SimE K W xc (tNotV ua) (dNotV ta) := by
  intro G ρ F σ H Q QQ hK hx I q k
  refine ha G ρ F σ H _ _ hK hx I q fun v r ρ1 F1 H1 q I1 R1 e1 f1 => ?_
  obtain ⟨d, l, q⟩ := q.out
  have z := I1.vw R1.1 l
  cases d with
  | bool b => exact ⟨b, (show v = .bl b by simpa only [Vw, Rep] using z), k _ _ ρ1 F1 H1 q I1 ⟨by show Rep _ _ _ _; simp only [Rep], fun z => by cases z⟩ e1 (Fresh.no rfl)⟩
  | none => exact q.elim
  | int _ => exact q.elim
  | str _ => exact q.elim
  | list _ => exact q.elim
  | tuple _ => exact q.elim
  | dict _ => exact q.elim
theorem de_one {op} (h : DE X W xc a ua ta) : DE X W xc (.BoolOp op [a] pos) ua ta := ⟨pe_one h.p, h.s⟩
theorem de_and (ha : DE X W xc a ua ta) (hb : DE X W xc (.BoolOp .And (b :: es) pos) ub tb) : DE X W xc (.BoolOp .And (a :: b :: es) pos) (tAndV ua ub) (dAndV ta tb) := ⟨pe_and ha.p hb.p, sim_andV ha.s hb.s⟩
theorem de_or (ha : DE X W xc a ua ta) (hb : DE X W xc (.BoolOp .Or (b :: es) pos) ub tb) : DE X W xc (.BoolOp .Or (a :: b :: es) pos) (tOrV ua ub) (dOrV ta tb) := ⟨pe_or ha.p hb.p, sim_orV ha.s hb.s⟩
theorem de_not (ha : DE X W xc a ua ta) : DE X W xc (.UnaryOp .Not a pos) (tNotV ua) (dNotV ta) := ⟨pe_not ha.p, sim_notV ha.s⟩

/-! ### argument lists, displays -/
def dNil : DTA := fun ρ Q => Q [] ρ
def dCons (ta : DTE) (tl : DTA) : DTA := fun ρ Q => ta ρ fun r ρ1 => tl ρ1 fun rs ρ2 => Q (frS r :: rs) ρ2
theorem sim_nil {K : PySem.W.Frag} : SimA K W xc tNil dNil := fun G ρ F σ H Q QQ hK hx I q k => k [] [] ρ F H q I rfl Step.refl
theorem sim_cons {K : PySem.W.Frag} {ua : TE} {ul : TA} (ha : SimE K W xc ua ta) (hl : SimA K W xc ul tl) : SimA K W xc (tCons ua ul) (dCons ta tl) := by
  intro G ρ F σ H Q QQ hK hx I q k
  refine ha G ρ F σ H _ _ hK hx I q fun v r ρ1 F1 H1 q I1 R1 e1 f1 => ?_
  obtain ⟨F1', I1', e1', _, S1, o1⟩ := I1.heldP R1 e1 f1
  refine hl G ρ1 F1' σ H1 _ _ hK hx I1' q fun vs rs ρ2 F2 H2 q I2 A2 e2 => ?_
  exact k (v :: vs) (frS r :: rs) ρ2 F2 H2 q I2 ⟨v, vs, rfl, o1, S1.later o1 e2.f, A2⟩ (e1'.trans e2)
theorem da_nil : DA X W xc [] tNil dNil := ⟨pa_nil, sim_nil⟩
theorem da_cons (ha : DE X W xc a ua ta) (hl : DA X W xc es ul tl) (hs : starEach (a :: es) X.env = (false, eval a X.env) :: starEach es X.env := by rfl) : DA X W xc (a :: es) (tCons ua ul) (dCons ta tl) := ⟨pa_cons ha.p hl.p hs, sim_cons ha.s hl.s⟩
/-- the results of an argument list, all frozen -/
def frzL (ρ : List Slot) : List Slot → List Slot × List Slot
  | [] => ([], ρ)
  | r :: rs => let p := frz ρ r; let q := frzL p.2 rs; (p.1 :: q.1, q.2)
theorem StOk.freezeL {G : Fr} {σ : St} {H H1 : Hp} {ρ0 : List Slot} {F0 : Hp} : ∀ {rs : List Slot} {ρ : List Slot} {F : Hp} {vs : List V}, StOk G ρ F σ H1 → AllOk G F H1 σ rs vs → Step G ρ0 F0 σ H ρ F H1 →
    ∃ F', StOk G (frzL ρ rs).2 F' σ H1 ∧ Step G ρ0 F0 σ H (frzL ρ rs).2 F' H1 ∧ Same F F' ∧ AllOk G F' H1 σ (frzL ρ rs).1 vs ∧ ∀ s ∈ (frzL ρ rs).1, s.isVw = false
  | [], ρ, F, vs, I, h, e => ⟨F, I, e, Same.refl F, h, fun s hs => by cases hs⟩
  | r :: rs, ρ, F, vs, I, ⟨v, ws, h1, h2, h3, h4⟩, e => by
    obtain ⟨F1, I1, e1, n1, S1, o1, w1⟩ := I.freezeP (r := r) (v := v) ⟨h3, fun z => by rw [h2] at z; cases z⟩ e (Fresh.no h2)
    obtain ⟨F2, I2, e2, n2, A2, w2⟩ := StOk.freezeL I1 (h4.later n1) e1
    refine ⟨F2, I2, e2, n1.trans n2, ⟨v, ws, h1, o1, S1.later o1 n2, A2⟩, fun s hs => ?_⟩
    rcases List.mem_cons.mp hs with rfl | hs
    · exact w1
    · exact w2 s hs
/-- the data of frozen results -/
def datas : List Slot → Option (List PyData)
  | [] => some []
  | .dat d :: rs => (datas rs).map (d :: ·)
  | _ :: _ => none
theorem AllOk.reps {G : Fr} {F H : Hp} {σ : St} : ∀ {rs : List Slot} {vs : List V} {ds : List PyData}, AllOk G F H σ rs vs → datas rs = some ds → Reps G.K F ds vs
  | [], vs, ds, h, q => by cases q; simp only [Reps]; exact h
  | r :: rs, vs, ds, ⟨v, ws, h1, h2, h3, h4⟩, q => by
    cases r with
    | dat d =>
      simp only [datas] at q
      cases z : datas rs with
      | none => rw [z] at q; cases q
      | some es =>
        rw [z] at q; cases q
        subst h1
        exact Reps.cons h3 (AllOk.reps h4 z)
    | un => cases q
    | own _ => cases q
    | ownT _ => cases q
    | ownK _ => cases q
    | vw _ => cases q
    | bag => cases q
    | ext _ => cases q
def withL (o : Option (List PyData)) (k : List PyData → Prop) : Prop := match o with
  | some d => k d
  | none => False
theorem withL.out {o : Option (List PyData)} {k : List PyData → Prop} (h : withL o k) : ∃ d, o = some d ∧ k d := by
  cases o with
  | none => exact h.elim
  | some d => exact ⟨d, rfl, h⟩
def dTup (tl : DTA) : DTE := fun ρ Q => tl ρ fun rs ρ1 => withL (datas (frzL ρ1 rs).1) fun ds => ds.length ≤ 100000 ∧ Q (.dat (.tuple ds)) (frzL ρ1 rs).2
def dLst (tl : DTA) : DTE := fun ρ Q => tl ρ fun rs ρ1 => withL (datas (frzL ρ1 rs).1) fun ds => ds.length ≤ 100000 ∧ Q (.own ds) (frzL ρ1 rs).2
theorem sz_of {n : Nat} (h : n ≤ 100000) : n ≤ sizeLine := Nat.le_trans h (by decide)
theorem sz_lt {n : Nat} (h : n < 100000) : n < sizeLine := Nat.lt_of_lt_of_le h (by decide)
theorem sim_tup {K : PySem.W.Frag} {ul : TA} (hl : SimA K W xc ul tl) : SimE K W xc (tTup ul) (dTup tl) := by
  intro G ρ F σ H Q QQ hK hx I q k
  refine hl G ρ F σ H _ _ hK hx I q fun vs rs ρ1 F1 H1 q I1 A1 e1 => ?_
  obtain ⟨ds, l, hz, q⟩ := q.out
  obtain ⟨F2, I2, e2, _, A2, _⟩ := I1.freezeL A1 e1
  have R := A2.reps l
  refine ⟨by rw [R.length]; exact sz_of hz, fun p hp => ?_⟩
  obtain ⟨F3, I3, e3, R3, f3⟩ := (Out.tup (K := G.K) (F := F2) hp R).ok I2
  exact k _ _ _ F3 _ q I3 R3 (e2.trans e3) (f3.back e2)
theorem sim_lst {K : PySem.W.Frag} {ul : TA} (hl : SimA K W xc ul tl) : SimE K W xc (tLst ul) (dLst tl) := by
  intro G ρ F σ H Q QQ hK hx I q k
  refine hl G ρ F σ H _ _ hK hx I q fun vs rs ρ1 F1 H1 q I1 A1 e1 => ?_
  obtain ⟨ds, l, hz, q⟩ := q.out
  obtain ⟨F2, I2, e2, _, A2, _⟩ := I1.freezeL A1 e1
  have R := A2.reps l
  refine ⟨by rw [R.length]; exact sz_of hz, fun p hp => ?_⟩
  obtain ⟨F3, I3, e3, R3, f3⟩ := (Out.lst (K := G.K) (F := F2) hp R).ok I2
  exact k _ _ _ F3 _ q I3 R3 (e2.trans e3) (f3.back e2)
theorem de_tup {x1} (h : DA X W xc es ul tl) : DE X W xc (.Tuple es x1 pos) (tTup ul) (dTup tl) := ⟨pe_tup h.p, sim_tup h.s⟩
theorem de_lst (h : DA X W xc es ul tl) : DE X W xc (.List es pos) (tLst ul) (dLst tl) := ⟨pe_lst h.p, sim_lst h.s⟩

/-! ### calls of built-ins, by views -/
/-- the data of results as they are to be read now -/
def looks (ρ : List Slot) : List Slot → Option (List PyData)
  | [] => some []
  | r :: rs => match look ρ r with
    | none => none
    | some d => (looks ρ rs).map (d :: ·)
def Vws (K : PySem.W.Frag) (F H : Hp) : List PyData → List V → Prop
  | [], vs => vs = []
  | d :: ds, vs => ∃ v ws, vs = v :: ws ∧ Vw K F H d v ∧ Vws K F H ds ws
theorem AllOk.vws {G : Fr} {ρ : List Slot} {F H : Hp} {σ : St} (I : StOk G ρ F σ H) : ∀ {rs : List Slot} {vs : List V} {ds : List PyData}, AllOk G F H σ rs vs → looks ρ rs = some ds → Vws G.K F H ds vs
  | [], vs, ds, h, q => by cases q; exact h
  | r :: rs, vs, ds, ⟨v, ws, h1, h2, h3, h4⟩, q => by
    simp only [looks] at q
    cases l : look ρ r with
    | none => rw [l] at q; cases q
    | some d =>
      rw [l] at q
      cases z : looks ρ rs with
      | none => rw [z] at q; cases q
      | some es =>
        rw [z] at q; cases q
        exact ⟨v, ws, h1, I.vw h3 l, AllOk.vws I h4 z⟩
def CallD (K : PySem.W.Frag) (r : List V → Hp → VK → Prop) (o : List PyData → (Slot → Prop) → Prop) : Prop := ∀ (F H : Hp) (xs : List V) (ds : List PyData) (q : Slot → Prop) (QQ : VK), Same F H → Vws K F H ds xs → o ds q →
  (∀ (v : V) (r' : Slot) (H' : Hp), q r' → Out K F H H' r' v → QQ v H') → r xs H QQ
def dCall (o : List PyData → (Slot → Prop) → Prop) (tl : DTA) : DTE := fun ρ Q => tl ρ fun rs ρ1 => withL (looks ρ1 rs) fun ds => o ds fun r => Q r ρ1
theorem sim_call {K : PySem.W.Frag} {r : List V → Hp → VK → Prop} {o : List PyData → (Slot → Prop) → Prop} {ul : TA} (ho : CallD K r o) (hl : SimA K W xc ul tl) : SimE K W xc (tCB r ul) (dCall o tl) := by
  intro G ρ F σ H Q QQ hK hx I q k
  refine hl G ρ F σ H _ _ hK hx I q fun vs rs ρ1 F1 H1 q I1 A1 e1 => ?_
  obtain ⟨ds, l, q⟩ := q.out
  subst hK
  refine ho F1 H1 vs ds _ _ I1.ex (A1.vws I1 l) q fun v r' H' q o => ?_
  obtain ⟨F3, I3, e3, R3, f3⟩ := o.ok I1
  exact k v r' ρ1 F3 H' q I3 R3 (e1.trans e3) (f3.back e1)
theorem de_callB {x : Str} {p : Pos} {id : String} {r : List V → Hp → VK → Prop} {o : List PyData → (Slot → Prop) → Prop} (hc : CallR X (.builtin id) r) (ho : CallD X.K r o) (hg : Gl X x) (hm : X.mg x = none) (hv : bootBuiltins x = some (.builtin id)) (ha : DA X W xc (e :: es) ul tl) (hn : x ≠ "__name__" := by decide) (hdb : (x == ("__debug__" : Str)) = false := by decide)
    (he : starEach (e :: es) X.env = (false, eval e X.env) :: starEach es X.env := by rfl) (hpl : (backTo pos (starEach es X.env)).any (·.1) = false := by rfl) : DE X W xc (.Call (.Name x p) (e :: es) [] pos) (tCB r ul) (dCall o tl) := ⟨pe_callB hc hg hm hv ha.p hn hdb he hpl, sim_call ho ha.s⟩
theorem de_callTy {x : Str} {p : Pos} {T : String} {r : List V → Hp → VK → Prop} {o : List PyData → (Slot → Prop) → Prop} (hc : CallR X (.type T) r) (ho : CallD X.K r o) (hg : Gl X x) (hm : X.mg x = none) (hv : bootBuiltins x = some (.type T)) (ha : DA X W xc (e :: es) ul tl) (hn : x ≠ "__name__" := by decide) (hdb : (x == ("__debug__" : Str)) = false := by decide)
    (he : starEach (e :: es) X.env = (false, eval e X.env) :: starEach es X.env := by rfl) (hpl : (backTo pos (starEach es X.env)).any (·.1) = false := by rfl) : DE X W xc (.Call (.Name x p) (e :: es) [] pos) (tCB r ul) (dCall o tl) := ⟨pe_callTy hc hg hm hv ha.p hn hdb he hpl, sim_call ho ha.s⟩
/-- a built-in type's method that changes nothing -/
def MtD (K : PySem.W.Frag) (T : String) (r : V → List V → Hp → VK → Prop) (o : PyData → List PyData → (Slot → Prop) → Prop) : Prop := ∀ (F H : Hp) (x : V) (xs : List V) (dx : PyData) (ds : List PyData) (q : Slot → Prop) (QQ : VK), Same F H → Vw K F H dx x → Vws K F H ds xs → o dx ds q →
  (∀ (v : V) (r' : Slot) (H' : Hp), q r' → Out K F H H' r' v → QQ v H') → r x xs H QQ
/-- the type's name of data -/
def tyD : PyData → String
  | .none => "NoneType"
  | .bool _ => "bool"
  | .int _ => "int"
  | .str _ => "str"
  | .list _ => "list"
  | .tuple _ => "tuple"
  | .dict _ => "dict"
end
end DL

-- part DStm
set_option Elab.async false
set_option maxRecDepth 100000
set_option maxHeartbeats 400000
namespace DL
open PySem L2

section
variable {X : Cx} {W : WX} {xc : XC} {a b c e : Expr} {es : List Expr} {ua ub ue : TE} {ut' uu' : TT} {ul : TA} {us us' : TS} {ta tb tc te : DTE} {tt tu tw : DTT} {tl : DTA} {t u : DTS} {st : Stmt} {sts rest : List Stmt} {pos : Pos} {K : PySem.W.Frag}

/-! ### blocks -/
def dNext : DTS := fun D ρ => D.nx ρ
def dSeq (t u : DTS) : DTS := fun D ρ => t { D with nx := u D } ρ
theorem EndsOk.nxt {G : Fr} {F : Hp} {D : DEnds} {DD : Ends} {n : List Slot → Prop} {nn : St → Hp → Prop} (h : EndsOk G F D DD) (hn : ∀ (ρ' : List Slot) (F' : Hp) (σ' : St) (H' : Hp), n ρ' → StOk G ρ' F' σ' H' → Same F F' → nn σ' H') : EndsOk G F { D with nx := n } { DD with nx := nn } := ⟨hn, h.rt, h.bk, h.ct⟩
theorem sim_next : SimS K W xc tNext dNext := fun G ρ F σ H D DD hK hx I q k => k.nx ρ F σ H q I (Same.refl F)
theorem sim_seq {ut uu : TS} (h1 : SimS K W xc ut t) (h2 : SimS K W xc uu u) : SimS K W xc (tSeq ut uu) (dSeq t u) := by
  intro G ρ F σ H D DD hK hx I q k
  exact h1 G ρ F σ H _ _ hK hx I q (k.nxt fun ρ' F' σ' H' n I' e => h2 G ρ' F' σ' H' D DD hK hx I' n (k.later e))
theorem dss_nil : DSs X W xc [] tNext dNext := ⟨pss_nil, sim_next⟩
theorem dss_cons (h1 : DS X W xc st us t) (h2 : DSs X W xc rest us' u) : DSs X W xc (st :: rest) (tSeq us us') (dSeq t u) := ⟨pss_cons h1.p h2.p, sim_seq h1.s h2.s⟩
theorem dss_one (h1 : DS X W xc st us t) : DSs X W xc [st] us t := ⟨pss_one h1.p, h1.s⟩
theorem ds_pass : DS X W xc (.Pass pos) tNext dNext := ⟨ps_pass, sim_next⟩
def dBreak : DTS := fun D ρ => D.bk ρ
def dCont : DTS := fun D ρ => D.ct ρ
theorem ds_break : DS X W xc (.Break pos) tBreak dBreak := ⟨ps_break, fun G ρ F σ H D DD hK hx I q k => k.bk ρ F σ H q I (Same.refl F)⟩
theorem ds_continue : DS X W xc (.Continue pos) tCont dCont := ⟨ps_continue, fun G ρ F σ H D DD hK hx I q k => k.ct ρ F σ H q I (Same.refl F)⟩

/-! ### name = e -/
/-- slot i is given the result r -/
def put (ρ : List Slot) (i : Nat) : Slot → List Slot
  | .vw j => (frz ρ (.vw j)).2.set i (frz ρ (.vw j)).1
  | r => ρ.set i r
theorem StOk.put {G : Fr} {ρ : List Slot} {F H : Hp} {σ : St} {r : Slot} {v : V} (I : StOk G ρ F σ H) (R : Res G ρ F σ H r v) (i : Nat) : ∃ F', StOk G (put ρ i r) F' (σ.set i (some v)) H ∧ Same F F' := by
  by_cases hv : r.isVw = true
  · obtain ⟨F', I', e, _, S, o, w⟩ := I.freeze R
    cases r with
    | vw j => exact ⟨F', I'.set ⟨S, fun z => by rw [o] at z; cases z⟩ w, e⟩
    | un => cases hv
    | dat _ => cases hv
    | own _ => cases hv
    | ownT _ => cases hv
    | ownK _ => cases hv
    | bag => cases hv
    | ext _ => cases hv
  · have hv : r.isVw = false := by simpa using hv
    have e : DL.put ρ i r = ρ.set i r := by cases r <;> first | rfl | cases hv
    rw [e]
    exact ⟨F, I.set R hv, Same.refl F⟩
def dSet (i : Nat) (te : DTE) : DTS := fun D ρ => te ρ fun r ρ1 => D.nx (put ρ1 i r)
theorem sim_set {ue : TE} {i : Nat} (h : SimE K W xc ue te) : SimS K W xc (tAsg ue (gName i)) (dSet i te) := by
  intro G ρ F σ H D DD hK hx I q k
  refine h G ρ F σ H _ _ hK hx I q fun v r ρ1 F1 H1 q I1 R1 e1 f1 => ?_
  obtain ⟨F2, I2, e2⟩ := I1.put R1 i
  exact k.nx _ F2 _ H1 q I2 (e1.f.trans e2)
theorem ds_set {i : Nat} {x : Str} {pos' : Pos} (hN : X.N.Nodup) (he : DE X W xc e ue te) (hi : X.N[i]? = some x := by rfl) (hx : Loc X.env.scope x := by exact Or.inl rfl) (hs : swapsWith e (some (.Name x pos')) pos.line X.env = pure false := by rfl) (hf : X.fn x = true ∨ X.env.scope.names.lookup x = some .local := by first | exact .inl rfl | exact .inr rfl | assumption) :
    DS X W xc (.Assign [.Name x pos'] e pos) (tAsg ue (gName i)) (dSet i te) := ⟨ps_set hN hi hx he.p hs hf, sim_set he.s⟩

/-! ### e; return e -/
def dDrop (te : DTE) : DTS := fun D ρ => te ρ fun _ ρ1 => D.nx ρ1
theorem sim_drop {ue : TE} (h : SimE K W xc ue te) : SimS K W xc (tDrop ue) (dDrop te) := by
  intro G ρ F σ H D DD hK hx I q k
  exact h G ρ F σ H _ _ hK hx I q fun v r ρ1 F1 H1 q I1 R1 e1 f1 => k.nx ρ1 F1 σ H1 q I1 e1.f
theorem ds_expr (he : DE X W xc e ue te) (hs : swapsWith e none pos.line X.env = pure false := by rfl) : DS X W xc (.Expr e pos) (tDrop ue) (dDrop te) := ⟨ps_expr he.p hs, sim_drop he.s⟩
/-- what is handed back: an owned slot's object is let go -/
def rel (ρ : List Slot) : Slot → Slot
  | .vw j => (ρ[j]?).getD .un
  | r => r
/-- .. the slots behind it -/
def relR (ρ : List Slot) : Slot → List Slot
  | .vw j => ρ.set j .un
  | _ => ρ
def dRet (te : DTE) : DTS := fun D ρ => te ρ fun r ρ1 => D.rt (rel ρ1 r) (relR ρ1 r)
theorem StOk.forget {G : Fr} {ρ : List Slot} {F H : Hp} {σ : St} (I : StOk G ρ F σ H) (j : Nat) : StOk G (ρ.set j .un) F σ H := by
  have other : ∀ (i : Nat) (s : Slot), (ρ.set j .un)[i]? = some s → s = .un ∨ (i ≠ j ∧ ρ[i]? = some s) := fun i s h => by
    rw [List.getElem?_set] at h
    by_cases e : j = i
    · rw [if_pos e] at h
      split at h
      · cases h; exact .inl rfl
      · cases h
    · rw [if_neg e] at h; exact .inr ⟨fun z => e z.symm, h⟩
  refine ⟨by rw [List.length_set]; exact I.len, fun i s h => ?_, fun i s h => ?_, fun i k s t l h1 h2 o1 o2 e1 e2 => ?_, I.ex, I.exF, I.keep, I.new, I.bag⟩
  · rcases other i s h with e | ⟨_, h⟩
    · exact .inl e
    · exact I.slot i s h
  · rcases other i s h with e | ⟨_, h⟩
    · subst e; rfl
    · exact I.novw i s h
  · rcases other i s h1 with e | ⟨_, h1⟩
    · subst e; cases o1
    · rcases other k t h2 with e | ⟨_, h2⟩
      · subst e; cases o2
      · exact I.inj i k s t l h1 h2 o1 o2 e1 e2
theorem sim_ret {ue : TE} (h : SimE K W xc ue te) : SimS K W xc (tRet ue) (dRet te) := by
  intro G ρ F σ H D DD hK hx I q k
  refine h G ρ F σ H _ _ hK hx I q fun v r ρ1 F1 H1 q I1 R1 e1 f1 => ?_
  cases r with
  | vw j =>
    have e : σ[j]? = some (some v) := R1.1
    cases z : ρ1[j]? with
    | none =>
      have q' : D.rt .un (ρ1.set j .un) := by simpa only [rel, relR, z, Option.getD_none] using q
      exact k.rt v .un (ρ1.set j .un) F1 σ H1 q' (I1.forget j) ⟨trivial, fun z => by cases z⟩ rfl e1.f
    | some s =>
      have q' : D.rt s (ρ1.set j .un) := by simpa only [rel, relR, z, Option.getD_some] using q
      rcases I1.slot j s z with y | ⟨u, y1, y2⟩
      · subst y
        exact k.rt v .un (ρ1.set j .un) F1 σ H1 q' (I1.forget j) ⟨trivial, fun z => by cases z⟩ rfl e1.f
      · rw [e] at y1; cases y1
        have wv := I1.novw j s z
        refine k.rt v s (ρ1.set j .un) F1 σ H1 q' (I1.forget j) ⟨y2, fun ho i t l h1 h2 h3 h4 => ?_⟩ wv e1.f
        rw [List.getElem?_set] at h1
        by_cases ej : j = i
        · rw [if_pos ej] at h1
          split at h1
          · cases h1; cases h2
          · cases h1
        · rw [if_neg ej] at h1
          subst h4
          exact ej (I1.inj j i s t l z h1 ho h2 e h3)
  | un => exact k.rt v _ ρ1 F1 σ H1 q I1 R1 rfl e1.f
  | dat _ => exact k.rt v _ ρ1 F1 σ H1 q I1 R1 rfl e1.f
  | own _ => exact k.rt v _ ρ1 F1 σ H1 q I1 R1 rfl e1.f
  | ownT _ => exact k.rt v _ ρ1 F1 σ H1 q I1 R1 rfl e1.f
  | ownK _ => exact k.rt v _ ρ1 F1 σ H1 q I1 R1 rfl e1.f
  | bag => exact k.rt v _ ρ1 F1 σ H1 q I1 R1 rfl e1.f
  | ext _ => exact k.rt v _ ρ1 F1 σ H1 q I1 R1 rfl e1.f
theorem ds_ret (he : DE X W xc e ue te) : DS X W xc (.Return (some e) pos) (tRet ue) (dRet te) := ⟨ps_ret he.p, sim_ret he.s⟩
def dRetN : DTS := fun D ρ => D.rt (.dat .none) ρ
theorem ds_retN : DS X W xc (.Return none pos) tRetN dRetN := ⟨ps_retN, fun G ρ F σ H D DD hK hx I q k => k.rt .non _ ρ F σ H q I ⟨by show Rep _ _ _ _; simp only [Rep], fun z => by cases z⟩ rfl (Same.refl F)⟩

/-! ### if -/
def dIfS (c : DTT) (t u : DTS) : DTS := fun D ρ => c ρ fun b ρ1 => if b = true then t D ρ1 else u D ρ1
theorem sim_ifS {uc : TT} {ut uu : TS} (hc : SimT K W xc uc tt) (h1 : SimS K W xc ut t) (h2 : SimS K W xc uu u) : SimS K W xc (tIfS uc ut uu) (dIfS tt t u) := by
  intro G ρ F σ H D DD hK hx I q k
  refine hc G ρ F σ H _ _ hK hx I q fun b ρ1 F1 H1 q I1 e1 => ?_
  cases b with
  | true => exact h1 G ρ1 F1 σ H1 D DD hK hx I1 q (k.later e1.f)
  | false => exact h2 G ρ1 F1 σ H1 D DD hK hx I1 q (k.later e1.f)
theorem ds_if {s1 s2 : List Stmt} (hc : DC X W xc c ut' tt) (h1 : DSs X W xc s1 us t) (h2 : DSs X W xc s2 us' u) : DS X W xc (.If c s1 s2 pos) (tIfS ut' us us') (dIfS tt t u) := ⟨ps_if hc.p h1.p h2.p, sim_ifS hc.s h1.s h2.s⟩

/-! ### targets -/
abbrev DTG := Slot → List Slot → (List Slot → Prop) → Prop
abbrev DTGs := List PyData → List Slot → (List Slot → Prop) → Prop
/-- a target that is given a result (not an owned slot's view) -/
def SimG (K : PySem.W.Frag) (g : TG) (t : DTG) (js : List Nat) : Prop := ∀ (G : Fr) (ρ : List Slot) (F : Hp) (σ : St) (H : Hp) (r : Slot) (v : V) (Q : List Slot → Prop) (QQ : St → Hp → Prop), G.K = K → StOk G ρ F σ H → Res G ρ F σ H r v → r.isVw = false → t r ρ Q →
  (∀ (ρ' : List Slot) (σ' : St), Q ρ' → StOk G ρ' F σ' H → (∀ vs : List Nat, (∀ j ∈ js, j ∈ vs) → wipe σ' vs = wipe σ vs) → QQ σ' H) → g v σ H QQ
def SimGs (K : PySem.W.Frag) (g : TGs) (t : DTGs) (js : List Nat) : Prop := ∀ (G : Fr) (ρ : List Slot) (F : Hp) (σ : St) (H : Hp) (ds : List PyData) (vs : List V) (Q : List Slot → Prop) (QQ : St → Hp → Prop), G.K = K → StOk G ρ F σ H → Reps G.K F ds vs → t ds ρ Q →
  (∀ (ρ' : List Slot) (σ' : St), Q ρ' → StOk G ρ' F σ' H → (∀ vs : List Nat, (∀ j ∈ js, j ∈ vs) → wipe σ' vs = wipe σ vs) → QQ σ' H) → g vs σ H QQ
structure DG (X : Cx) (e : Expr) (g : TG) (t : DTG) (js : List Nat) : Prop where
  p : PG X e g
  s : SimG X.K g t js
structure DGs (X : Cx) (es : List Expr) (g : TGs) (t : DTGs) (js : List Nat) : Prop where
  p : PGs X es g
  s : SimGs X.K g t js
theorem wipe_get {σ : St} {i : Nat} : ∀ {vs : List Nat}, (wipe σ vs)[i]? = if i ∈ vs ∧ i < σ.length then some none else σ[i]?
  | [] => by rw [if_neg (by simp)]; rfl
  | v :: vs => by
    unfold wipe
    rw [List.getElem?_set]
    by_cases e : v = i
    · subst e
      rw [if_pos rfl, wipe_length]
      by_cases h : v < σ.length
      · rw [if_pos h, if_pos ⟨List.mem_cons_self, h⟩]
      · rw [if_neg h, if_neg (fun z => h z.2)]
        exact (List.getElem?_eq_none (by omega)).symm
    · rw [if_neg e, wipe_get]
      have : (i ∈ v :: vs) ↔ i ∈ vs := by simp only [List.mem_cons]; exact ⟨fun z => z.resolve_left fun q => e q.symm, .inr⟩
      simp only [this]
theorem wipe_set {σ : St} {j : Nat} {x : Option V} {vs : List Nat} (h : j ∈ vs) : wipe (σ.set j x) vs = wipe σ vs := by
  refine List.ext_getElem? fun i => ?_
  rw [wipe_get, wipe_get, List.length_set, List.getElem?_set]
  by_cases c : i ∈ vs ∧ i < σ.length
  · rw [if_pos c, if_pos c]
  · rw [if_neg c, if_neg c]
    by_cases e : j = i
    · subst e
      rw [if_pos rfl]
      have : ¬ j < σ.length := fun z => c ⟨h, z⟩
      rw [if_neg this]
      exact (List.getElem?_eq_none (by omega)).symm
    · rw [if_neg e]
theorem wipe_wipe {σ : St} {vs : List Nat} : wipe (wipe σ vs) vs = wipe σ vs := by
  refine List.ext_getElem? fun i => ?_
  rw [wipe_get, wipe_get, wipe_length]
  by_cases c : i ∈ vs ∧ i < σ.length
  · rw [if_pos c, if_pos c]
  · rw [if_neg c, if_neg c]
def hName (i : Nat) : DTG := fun r ρ Q => Q (ρ.set i r)
theorem dg_name {i : Nat} {x : Str} (hN : X.N.Nodup) (hi : X.N[i]? = some x := by rfl) (hx : Loc X.env.scope x := by exact Or.inl rfl) (hf : X.fn x = true ∨ X.env.scope.names.lookup x = some .local := by first | exact .inl rfl | exact .inr rfl | assumption) : DG X (.Name x pos) (gName i) (hName i) [i] :=
  ⟨pg_name hN hi hx hf, fun G ρ F σ H r v Q QQ hK I R hv q k => k _ _ q (I.set R hv) fun vs h => wipe_set (h i List.mem_cons_self)⟩
def hNil : DTGs := fun ds ρ Q => ds = [] ∧ Q ρ
def hCons (t : DTG) (u : DTGs) : DTGs := fun ds ρ Q => match ds with
  | [] => False
  | d :: r => t (.dat d) ρ fun ρ' => u r ρ' Q
theorem dgs_nil : DGs X [] gNil hNil [] := ⟨pgs_nil, fun G ρ F σ H ds vs Q QQ hK I R q k => by
  obtain ⟨rfl, q⟩ := q
  simp only [Reps] at R
  exact ⟨R, k ρ σ q I fun _ _ => rfl⟩⟩
theorem dgs_cons {js ks : List Nat} {g1 : TG} {g2 : TGs} {t : DTG} {u : DTGs} (h1 : DG X e g1 t js) (h2 : DGs X es g2 u ks) (hs : (assignEach (e :: es) X.env).map (·.2) = assign e X.env :: (assignEach es X.env).map (·.2) := by rfl) : DGs X (e :: es) (gCons g1 g2) (hCons t u) (js ++ ks) := by
  obtain ⟨p1, s1⟩ := h1
  obtain ⟨p2, s2⟩ := h2
  refine ⟨pgs_cons p1 p2 hs, fun G ρ F σ H ds vs Q QQ hK I R q k => ?_⟩
  cases ds with
  | nil => exact q.elim
  | cons d r =>
    obtain ⟨v, ws, rfl, h1, h2⟩ := R.split
    exact ⟨v, ws, rfl, s1 G ρ F σ H (.dat d) v _ _ hK I ⟨h1, fun z => by cases z⟩ rfl q fun ρ1 σ1 q1 I1 w1 => s2 G ρ1 F σ1 H r ws Q QQ hK I1 h2 q1 fun ρ2 σ2 q2 I2 w2 => k ρ2 σ2 q2 I2 fun vs h => (w2 vs fun j hj => h j (List.mem_append_right _ hj)).trans (w1 vs fun j hj => h j (List.mem_append_left _ hj))⟩
/-- (a, b, ..) = a tuple -/
def hTup (n : Nat) (t : DTGs) : DTG := fun r ρ Q => match r with
  | .dat (.tuple ds) => ds.length = n ∧ t ds ρ Q
  | _ => False
theorem dg_tup {js : List Nat} {g1 : TGs} {k : Nat} {t : DTGs} {n : Nat} (hc : X.calm = true) (h : DGs X es g1 t js) (hn : (assignEach es X.env).length = n := by rfl) (hst : (assignEach es X.env).findIdx? (·.1) = none := by rfl) : DG X (.Tuple es k pos) (gTup X.K n g1) (hTup n t) js := by
  obtain ⟨p1, s1⟩ := h
  refine ⟨pg_tup hc p1 hn hst, fun G ρ F σ H r v Q QQ hK I R hv q k => ?_⟩
  cases r with
  | dat d =>
    cases d with
    | tuple ds =>
      obtain ⟨q1, q⟩ := q
      have z := R.1
      simp only [SlotOk, Rep] at z
      obtain ⟨a, vs, rfl, h2, h3⟩ := z
      rw [← hK]
      exact ⟨a, vs, rfl, SqT.of (I.ex _ _ h2), h3.length.trans q1, s1 G ρ F σ H ds vs Q QQ hK I h3 q k⟩
    | none => exact q.elim
    | bool _ => exact q.elim
    | int _ => exact q.elim
    | str _ => exact q.elim
    | list _ => exact q.elim
    | dict _ => exact q.elim
  | un => exact q.elim
  | own _ => exact q.elim
  | ownT _ => exact q.elim
  | ownK _ => exact q.elim
  | vw _ => exact q.elim
  | bag => exact q.elim
  | ext _ => exact q.elim
def dAsg (te : DTE) (g : DTG) : DTS := fun D ρ => te ρ fun r ρ1 => g (frz ρ1 r).1 (frz ρ1 r).2 D.nx
theorem sim_asg {js : List Nat} {ue : TE} {ug : TG} {g : DTG} (h : SimE K W xc ue te) (hg : SimG K ug g js) : SimS K W xc (tAsg ue ug) (dAsg te g) := by
  intro G ρ F σ H D DD hK hx I q k
  refine h G ρ F σ H _ _ hK hx I q fun v r ρ1 F1 H1 q I1 R1 e1 f1 => ?_
  obtain ⟨F2, I2, e2, _, S, o, w⟩ := I1.freeze R1
  refine hg G _ F2 σ H1 _ v D.nx DD.nx hK I2 ⟨S, fun z => by rw [o] at z; cases z⟩ w q fun ρ' σ' q' I' _ => k.nx ρ' F2 σ' H1 q' I' (e1.f.trans e2)
theorem ds_asg {js : List Nat} {tg : Expr} {ug : TG} {g : DTG} (he : DE X W xc e ue te) (hg : DG X tg ug g js) (hs : swapsWithSole [tg] e pos.line X.env = pure false := by rfl) (hw : swappedStores [tg] e X.env = pure none := by rfl)
    (h1 : (assignEach [tg] X.env).map (·.2) = [assign tg X.env] := by rfl) : DS X W xc (.Assign [tg] e pos) (tAsg ue ug) (dAsg te g) := ⟨ps_asg he.p hg.p hs hw h1, sim_asg he.s hg.s⟩
/-- a, b = x, y (two different names) -/
def dPar (i j : Nat) (tl : DTA) : DTS := fun D ρ => tl ρ fun rs ρ1 => match rs with
  | [r, s] => D.nx (put (put ρ1 i r) j s)
  | _ => False

/-! ### a def's promise -/
def ArgsOk (K : PySem.W.Frag) (b : Option Addr) (F : Hp) (ss : List Slot) (vs : List V) : Prop := AllOk ⟨K, b, F, F⟩ F F [] ss vs ∧ ∀ s ∈ ss, s.isVw = false
/-- how the heaps lie behind a call -/
structure After (K : PySem.W.Frag) (b : Option Addr) (F H F' H' : Hp) : Prop where
  f : Same F F'
  ex : Same F' H'
  k : ∀ (l : Addr) (o : HO), H l = some o → b ≠ some l → H' l = some o
  n : ∀ (l : Addr) (o : HO), F' l = some o → F l = some o ∨ H l = none ∨ Imm o
  bag : ∀ l, b = some l → BagAt K F' H' l
abbrev Con := List Slot → (Slot → Prop) → (Addr → List (Str × PyData) → Prop) → Prop
def spOf (K : PySem.W.Frag) (n : Nat) (con : Con) : Sp := fun vs H Q E => vs.length = n ∧ ∃ (b : Option Addr) (F : Hp) (ss : List Slot) (q : Slot → Prop) (x : Addr → List (Str × PyData) → Prop),
  Same F H ∧ (∀ l, b = some l → BagAt K F H l) ∧ ArgsOk K b F ss vs ∧ con ss q x ∧
  (∀ (v : V) (r : Slot) (F' H' : Hp), q r → After K b F H F' H' → SlotOk ⟨K, b, F, H⟩ F' H' [] r v → r.isVw = false → Q v H') ∧
  (∀ (C : Addr) (fs : List (Str × PyData)) (F' H' : Hp) (d : Addr) (vfs : List (Str × V)), x C fs → After K b F H F' H' → H' d = some (.xd vfs) → KVs K F' fs vfs → E (.ref C) (some d) H')
theorem SlotOk.sig {G : Fr} {F H : Hp} {σ σ' : St} {s : Slot} {v : V} (h : SlotOk G F H σ s v) (hv : s.isVw = false) : SlotOk G F H σ' s v := by
  cases s <;> first | exact h | cases hv
theorem SlotOk.fr {G G' : Fr} {F H H' : Hp} {σ : St} {s : Slot} {v : V} (h : SlotOk G F H σ s v) (ho : s.isOwn = false) (hK : G'.K = G.K) (hb : G'.b = G.b) : SlotOk G' F H' σ s v := by
  cases s with
  | un => trivial
  | dat d => show Rep _ _ _ _; rw [hK]; exact h
  | own _ => cases ho
  | ownT _ => cases ho
  | ownK _ => cases ho
  | vw _ => exact h
  | bag => obtain ⟨b, e, z⟩ := h; exact ⟨b, by rw [hb]; exact e, z⟩
  | ext φ => exact h
theorem AllOk.len {G : Fr} {F H : Hp} {σ : St} : ∀ {rs : List Slot} {vs : List V}, AllOk G F H σ rs vs → vs.length = rs.length
  | [], _, h => by have h : _ = [] := h; subst h; rfl
  | r :: rs, vs, ⟨v, ws, h1, _, _, h4⟩ => by subst h1; simp only [List.length_cons, AllOk.len h4]
theorem AllOk.get {G : Fr} {F H : Hp} {σ : St} : ∀ {rs : List Slot} {vs : List V} {i : Nat} {s : Slot}, AllOk G F H σ rs vs → rs[i]? = some s → ∃ v, vs[i]? = some v ∧ s.isOwn = false ∧ SlotOk G F H σ s v
  | [], _, _, _, _, e => by simp at e
  | r :: rs, vs, i, s, ⟨v, ws, h1, h2, h3, h4⟩, e => by
    subst h1
    cases i with
    | zero => simp at e; subst e; exact ⟨v, by simp, h2, h3⟩
    | succ i =>
      obtain ⟨u, e1, e2⟩ := AllOk.get (i := i) h4 (by simpa using e)
      exact ⟨u, by simpa using e1, e2⟩
theorem AllOk.fr {G G' : Fr} {F H H' : Hp} {σ σ' : St} (hK : G'.K = G.K) (hb : G'.b = G.b) : ∀ {rs : List Slot} {vs : List V}, AllOk G F H σ rs vs → (∀ s ∈ rs, s.isVw = false) → AllOk G' F H' σ' rs vs
  | [], _, h, _ => h
  | r :: rs, vs, ⟨v, ws, h1, h2, h3, h4⟩, hv => ⟨v, ws, h1, h2, (h3.fr h2 hK hb).sig (hv r List.mem_cons_self), AllOk.fr hK hb h4 fun s hs => hv s (List.mem_cons_of_mem _ hs)⟩
def starts (n : Nat) (ss : List Slot) : List Slot := ss ++ List.replicate (n - ss.length) .un
/-- at a def's entry -/
theorem StOk.start {b : Option Addr} {F H : Hp} {N : List Str} {ss : List Slot} {vs : List V} (e : Same F H) (hb : ∀ l, b = some l → BagAt K F H l) (ha : ArgsOk K b F ss vs) : StOk ⟨K, b, F, H⟩ (starts N.length ss) F (L2.start N vs) H := by
  have hl := ha.1.len
  have get : ∀ (i : Nat) (s : Slot), (starts N.length ss)[i]? = some s → s = .un ∨ ss[i]? = some s := fun i s h => by
    unfold starts at h
    by_cases hi : i < ss.length
    · rw [List.getElem?_append_left hi] at h; exact .inr h
    · rw [List.getElem?_append_right (by omega), List.getElem?_replicate] at h
      split at h
      · cases h; exact .inl rfl
      · cases h
  refine ⟨?_, fun i s h => ?_, fun i s h => ?_, fun i j s t l h1 h2 o1 o2 _ _ => ?_, e, Same.refl F, fun l o h _ => h, fun l o h => .inl h, fun l h => ⟨hb l h, ?_⟩⟩
  · unfold starts L2.start
    simp only [List.length_append, List.length_replicate, List.length_map, hl]
  · rcases get i s h with z | z
    · exact .inl z
    · obtain ⟨v, q1, q2, q3⟩ := ha.1.get z
      refine .inr ⟨v, ?_, SlotOk.sig (SlotOk.fr (G' := ⟨K, b, F, H⟩) (H' := H) q3 q2 rfl rfl) (ha.2 s (List.mem_of_getElem? z))⟩
      unfold L2.start
      rw [List.getElem?_append_left (by rw [List.length_map]; exact (List.getElem?_eq_some_iff.mp q1).1), List.getElem?_map, q1]
      rfl
  · rcases get i s h with z | z
    · subst z; rfl
    · exact ha.2 s (List.mem_of_getElem? z)
  · rcases get i s h1 with z | z
    · subst z; cases o1
    · obtain ⟨v, q1, q2, q3⟩ := ha.1.get z
      rw [q2] at o1; cases o1
  · obtain ⟨_, n1, n2, n3, c, ns, q, _⟩ := hb l h
    exact ⟨_, q⟩
theorem StOk.after {b : Option Addr} {F H F' H' : Hp} {ρ : List Slot} {σ : St} (I : StOk ⟨K, b, F, H⟩ ρ F' σ H') : After K b F H F' H' := ⟨I.exF, I.ex, I.keep, I.new, fun l h => (I.bag l h).1⟩
/-- the ends of a body and its promise -/
theorem ends_start {b : Option Addr} {F H : Hp} {Q : VK} {q : Slot → Prop} (hq : ∀ (v : V) (r : Slot) (F' H' : Hp), q r → After K b F H F' H' → SlotOk ⟨K, b, F, H⟩ F' H' [] r v → r.isVw = false → Q v H') :
    EndsOk ⟨K, b, F, H⟩ F { nx := fun _ => q (.dat .none), rt := fun r _ => q r } { nx := fun _ H' => Q .non H', rt := Q } :=
  ⟨fun ρ' F' σ' H' h I e => hq .non _ F' H' h I.after (by show Rep _ _ _ _; simp only [Rep]) rfl, fun v r ρ' F' σ' H' h I R hv e => hq v r F' H' h I.after (R.1.sig hv) hv, fun _ _ _ _ h => h.elim, fun _ _ _ _ h => h.elim⟩
end

/-- THE RULE for a def that raises nothing: its body's derivation, read at every frozen argument list -/
theorem fn_ok {P : Program} {w : World} {K : PySem.W.Frag} {mg : Str → Option Value} {base : Heap} {x qual : Str} {st : Stmt} {f : Addr} {fd : FuncData} {N ps : List Str} {k : Nat} {con : Con} (F : Fun K x qual st f fd) (S : FnScope N ps (defScope st))
    (hbody : ∀ (cdv : Value) (A : Around) (outer : List Env) (s : Shared) (H : Hp), Room k (A.deeper (PyProof.Rows.envOfC qual (defScope st) s.heap.objs.size f cdv)) →
      ∃ ts t, DSs (cxOf CX0 P w K mg base N qual (defScope st) f cdv A outer s H E0).nox (fun _ _ _ _ => False) (fun _ _ _ => False) (defBody st) ts t ∧ ∀ (ss : List Slot) (q : Slot → Prop) (y : Addr → List (Str × PyData) → Prop), ss.length = ps.length → con ss q y → t { nx := fun _ => q (.dat .none), rt := fun r _ => q r } (starts N.length ss)) :
    FnOk P w K mg base CX0 (k + 1) f fd ps (spOf K ps.length con) := by
  refine F.ok S (fun vs H Q E h => h.1) fun cdv A outer s H vs Q E hr h => ?_
  obtain ⟨hl, b, F', ss, q, y, e, hb, ha, hc, hq, _⟩ := h
  obtain ⟨ts, t, ⟨p, sm⟩, hw⟩ := hbody cdv A outer s H hr
  refine ⟨ts, p, sm ⟨K, b, F', H⟩ _ F' _ H _ _ rfl (fun _ _ _ _ _ _ _ _ z => z.elim) (StOk.start (N := N) e hb ha) (hw ss q y (by rw [← ha.1.len]; exact hl) hc) (ends_start hq)⟩

section
variable {X : Cx} {W : WX} {xc : XC} {e : Expr} {es : List Expr} {ul : TA} {tl : DTA} {pos p : Pos} {k : Nat} {f : Addr} {fd : FuncData} {ps : List Str} {con : Con} {x : Str}
/-- a call of a def of the text -/
def dFn (xc : XC) (n : Nat) (con : Con) (tl : DTA) : DTE := fun ρ Q => tl ρ fun rs ρ1 => rs.length = n ∧ con (frzL ρ1 rs).1 (fun r => Q r (frzL ρ1 rs).2) fun C fs => xc C fs (frzL ρ1 rs).2
theorem After.step {G : Fr} {ρ : List Slot} {F F' H H' : Hp} {σ : St} (I : StOk G ρ F σ H) (A : After G.K G.b F H F' H') : StOk G ρ F' σ H' ∧ Step G ρ F σ H ρ F' H' :=
  ⟨I.grow A.f A.ex A.k A.n A.bag, ⟨A.f, fun l o h hb _ => A.k l o h hb, fun _ s' h o => ⟨s', h, o⟩, fun l o h => (A.n l o h).elim .inl fun z => z.elim (fun z => .inr (.inl z)) fun z => .inr (.inr (.inr z)), fun l h => by
    cases q : H l with
    | none => rfl
    | some o =>
      by_cases hb : G.b = some l
      · obtain ⟨_, n1, n2, n3, c, ns, z, _⟩ := A.bag l hb
        rw [h] at z; cases z
      · rw [A.k l o q hb] at h; cases h⟩⟩
theorem ret_res {G : Fr} {ρ : List Slot} {F F' H H' : Hp} {σ : St} {r : Slot} {v : V} (I : StOk G ρ F σ H) (A : After G.K G.b F H F' H') (S : SlotOk ⟨G.K, G.b, F, H⟩ F' H' [] r v) (hv : r.isVw = false) : Res G ρ F' σ H' r v := by
  by_cases ho : r.isOwn = true
  · obtain ⟨l, o, rfl, h1, h2, h3⟩ := own_addr S ho
    have h0 := I.free0 h2
    refine ⟨?_, fun _ i s l' a1 a2 a3 a4 => ?_⟩
    · cases r with
      | own ds => obtain ⟨l', vs, e, f1, f2, f3, f4⟩ := S; cases e; exact ⟨l, vs, rfl, f1, h0, f3, f4⟩
      | ownT ds => obtain ⟨l', vs, e, f1, f2, f3, f4⟩ := S; cases e; exact ⟨l, vs, rfl, f1, h0, f3, f4⟩
      | ownK ds => obtain ⟨l', vs, e, f1, f2, f3, f4⟩ := S; cases e; exact ⟨l, vs, rfl, f1, h0, f3, f4⟩
      | un => cases ho
      | dat _ => cases ho
      | vw _ => cases ho
      | bag => cases ho
      | ext _ => cases ho
    · cases a4
      exact I.own_ne h2 a1 a2 a3 rfl
  · have ho : r.isOwn = false := by simpa using ho
    exact ⟨SlotOk.sig (SlotOk.fr (G' := G) (H' := H') S ho rfl rfl) hv, fun z => by rw [ho] at z; cases z⟩
theorem call_core {G : Fr} {ρ : List Slot} {F : Hp} {σ : St} {H : Hp} {rs : List Slot} {vs : List V} {Q : Slot → List Slot → Prop} {QQ : VK} {E : XK} {n : Nat} (hx : ∀ (C : Addr) (fs : List (Str × PyData)) (F : Hp) (H : Hp) (d : Addr) (vfs : List (Str × V)), xc C fs (frzL ρ rs).2 → StOk G (frzL ρ rs).2 F σ H → H d = some (.xd vfs) → KVs G.K F fs vfs → E (.ref C) (some d) H)
    (I : StOk G ρ F σ H) (A : AllOk G F H σ rs vs) (hn : vs.length = n) (q : con (frzL ρ rs).1 (fun r => Q r (frzL ρ rs).2) fun C fs => xc C fs (frzL ρ rs).2)
    (k : ∀ (v : V) (r : Slot) (ρ' : List Slot) (F' H' : Hp), Q r ρ' → StOk G ρ' F' σ H' → Res G ρ' F' σ H' r v → Step G ρ F σ H ρ' F' H' → Fresh H r v → QQ v H') : spOf G.K n con vs H QQ E := by
  obtain ⟨F1, I1, e1, _, A1, w1⟩ := I.freezeL A Step.refl
  refine ⟨hn, G.b, F1, (frzL ρ rs).1, _, _, I1.ex, fun l h => (I1.bag l h).1, ⟨AllOk.fr (G := G) (G' := ⟨G.K, G.b, F1, F1⟩) (F := F1) (H := H) (σ := σ) (H' := F1) (σ' := []) rfl rfl A1 w1, w1⟩, q, fun v r F' H' q' af S hv => ?_, fun C fs F' H' d vfs q' af hd hk => ?_⟩
  · obtain ⟨I2, e2⟩ := af.step I1
    exact k v r _ F' H' q' I2 (ret_res I1 af S hv) (e1.trans e2) fun ho l hl => by
      obtain ⟨l', o, e3, _, h2, _⟩ := own_addr S ho
      rw [hl] at e3; cases e3; exact h2
  · exact hx C fs F' H' d vfs q' (af.step I1).1 hd hk
/-- no exception leaves the callee -/
theorem de_fn {n : Nat} (Fn : FnOk X.prog X.w X.K X.mg X.base CX0 k f fd ps (spOf X.K n con)) (hr : Room k X.A) (hm : X.mg x = some (.ref f)) (hk : PySem.W.keepIn X.K (.ref f) = true) (hb : Binds X.K fd ps []) (ha : DA X W xc (e :: es) ul tl) (hg : Gl X x := by rfl)
    (hdb : (x == ("__debug__" : Str)) = false := by decide) (he : starEach (e :: es) X.env = (false, eval e X.env) :: starEach es X.env := by rfl) (hpl : (backTo pos (starEach es X.env)).any (·.1) = false := by rfl) :
    DE X W xc (.Call (.Name x p) (e :: es) [] pos) (tCall (spOf X.K n con) [] E0 ul) (dFn (fun _ _ _ => False) n con tl) := by
  refine ⟨pe_call Fn hr hg hm hk hb .nil pass0 ha.p hdb he hpl, fun G ρ F σ H Q QQ hK hx I q kk => ?_⟩
  refine ha.s G ρ F σ H _ _ hK hx I q fun vs rs ρ1 F1 H1 q I1 A1 e1 => ?_
  rw [List.append_nil, ← hK]
  exact call_core (xc := fun _ _ _ => False) (fun _ _ _ _ _ _ z => z.elim) I1 A1 (A1.len.trans q.1) q.2 fun v r ρ' F' H' q' I' R' e' f' => kk v r ρ' F' H' q' I' R' (e1.trans e') (f'.back e1)
/-- no argument -/
theorem de_fn0 (Fn : FnOk X.prog X.w X.K X.mg X.base CX0 k f fd ps (spOf X.K 0 con)) (hr : Room k X.A) (hm : X.mg x = some (.ref f)) (hk : PySem.W.keepIn X.K (.ref f) = true) (hb : Binds X.K fd ps []) (hg : Gl X x := by rfl)
    (hdb : (x == ("__debug__" : Str)) = false := by decide) : DE X W xc (.Call (.Name x p) [] [] pos) (tCall (spOf X.K 0 con) [] E0 tNil) (dFn (fun _ _ _ => False) 0 con dNil) := by
  refine ⟨pe_call0 Fn hr hg hm hk hb .nil pass0 hdb, fun G ρ F σ H Q QQ hK hx I q kk => ?_⟩
  rw [← hK]
  exact call_core (rs := []) (vs := []) (xc := fun _ _ _ => False) (fun _ _ _ _ _ _ z => z.elim) I rfl rfl q.2 fun v r ρ' F' H' q' I' R' e' f' => kk v r ρ' F' H' q' I' R' e' f'
/-- a callee that may raise: its exceptions go to the wish W -/
theorem de_fnX {n : Nat} (Fn : FnOk X.prog X.w X.K X.mg X.base (L2.CX X.prog X.w) k f fd ps (spOf X.K n con)) (hr : Room k X.A) (hm : X.mg x = some (.ref f)) (hk : PySem.W.keepIn X.K (.ref f) = true) (hb : Binds X.K fd ps []) (tk : Takes X W) (ha : DA X W xc (e :: es) ul tl) (hg : Gl X x := by rfl)
    (hdb : (x == ("__debug__" : Str)) = false := by decide) (he : starEach (e :: es) X.env = (false, eval e X.env) :: starEach es X.env := by rfl) (hpl : (backTo pos (starEach es X.env)).any (·.1) = false := by rfl) :
    DE X W xc (.Call (.Name x p) (e :: es) [] pos) (tCallS (spOf X.K n con) (WE W) ul) (dFn xc n con tl) := by
  refine ⟨pe_callS Fn hr hg hm hk hb (passAt tk) ha.p hdb he hpl, fun G ρ F σ H Q QQ hK hx I q kk => ?_⟩
  refine ha.s G ρ F σ H _ _ hK hx I q fun vs rs ρ1 F1 H1 q I1 A1 e1 => ?_
  rw [← hK]
  exact call_core (xc := xc) (fun C fs F H d vfs h1 h2 h3 h4 => hx C fs _ F σ H d vfs h1 h2 h3 h4) I1 A1 (A1.len.trans q.1) q.2 fun v r ρ' F' H' q' I' R' e' f' => kk v r ρ' F' H' q' I' R' (e1.trans e') (f'.back e1)
/-- .. where it is known to raise nothing -/
theorem de_fnL {n : Nat} (Fn : FnOk X.prog X.w X.K X.mg X.base (L2.CX X.prog X.w) k f fd ps (spOf X.K n con)) (hr : Room k X.A) (hm : X.mg x = some (.ref f)) (hk : PySem.W.keepIn X.K (.ref f) = true) (hb : Binds X.K fd ps []) (ha : DA X W xc (e :: es) ul tl) (hg : Gl X x := by rfl)
    (hdb : (x == ("__debug__" : Str)) = false := by decide) (he : starEach (e :: es) X.env = (false, eval e X.env) :: starEach es X.env := by rfl) (hpl : (backTo pos (starEach es X.env)).any (·.1) = false := by rfl) :
    DE X W xc (.Call (.Name x p) (e :: es) [] pos) (tCall (spOf X.K n con) [] E0 ul) (dFn (fun _ _ _ => False) n con tl) := by
  refine ⟨pe_call Fn hr hg hm hk hb .nil passL ha.p hdb he hpl, fun G ρ F σ H Q QQ hK hx I q kk => ?_⟩
  refine ha.s G ρ F σ H _ _ hK hx I q fun vs rs ρ1 F1 H1 q I1 A1 e1 => ?_
  rw [List.append_nil, ← hK]
  exact call_core (xc := fun _ _ _ => False) (fun _ _ _ _ _ _ z => z.elim) I1 A1 (A1.len.trans q.1) q.2 fun v r ρ' F' H' q' I' R' e' f' => kk v r ρ' F' H' q' I' R' (e1.trans e') (f'.back e1)
end
/-- what is wished of exceptions that leave a def's body -/
abbrev wLeave (E : XK) : WX := fun cls d _ H => E cls d H
/-- THE RULE for a def that may raise -/
theorem fn_okX {P : Program} {w : World} {K : PySem.W.Frag} {mg : Str → Option Value} {base : Heap} {x qual : Str} {st : Stmt} {f : Addr} {fd : FuncData} {N ps : List Str} {k : Nat} {con : Con} (F : Fun K x qual st f fd) (S : FnScope N ps (defScope st))
    (hbody : ∀ (cdv : Value) (A : Around) (outer : List Env) (s : Shared) (H : Hp) (E : XK), Room k (A.deeper (PyProof.Rows.envOfC qual (defScope st) s.heap.objs.size f cdv)) →
      Takes (cxOf (L2.CX P w) P w K mg base N qual (defScope st) f cdv A outer s H E) (wLeave E) → ∀ (y : Addr → List (Str × PyData) → Prop),
      ∃ ts t, DSs (cxOf (L2.CX P w) P w K mg base N qual (defScope st) f cdv A outer s H E) (wLeave E) (fun C fs _ => y C fs) (defBody st) ts t ∧ ∀ (ss : List Slot) (q : Slot → Prop), ss.length = ps.length → con ss q y → t { nx := fun _ => q (.dat .none), rt := fun r _ => q r } (starts N.length ss)) :
    FnOk P w K mg base (L2.CX P w) (k + 1) f fd ps (spOf K ps.length con) := by
  refine F.okX S (fun vs H Q E h => h.1) fun cdv A outer s H vs Q E hr h => ?_
  obtain ⟨hl, b, F', ss, q, y, e, hb, ha, hc, hq, hy⟩ := h
  obtain ⟨ts, t, ⟨p, sm⟩, hw⟩ := hbody cdv A outer s H E hr (takes_of rfl rfl rfl rfl) y
  exact ⟨ts, p, sm ⟨K, b, F', H⟩ _ F' _ H _ _ rfl (fun C fs ρ F2 σ H2 d vfs h1 h2 h3 h4 => hy C fs F2 H2 d vfs h1 h2.after h3 h4) (StOk.start (N := N) e hb ha) (hw ss q (by rw [← ha.1.len]; exact hl) hc) (ends_start hq)⟩
end DL

-- part DLoop
set_option Elab.async false
set_option maxRecDepth 100000
set_option maxHeartbeats 400000
namespace DL
open PySem L2

/-! ### what is walked -/
abbrev DTI := List Slot → (List PyData → List Slot → Prop) → Prop
/-- a walk gives the items ds, one a turn, as data -/
structure Gives (K : PySem.W.Frag) (J : It) (ds : List PyData) (F H : Hp) : Prop where
  w : ∃ (Gd : Hp → Prop) (Y : Nat → Hp → V → Hp → Prop), Walk J ds.length Gd Y ∧ (∀ F1 H1, Same F F1 → Same F1 H1 → Gd H1) ∧
    ∀ (i : Nat) (d : PyData) (F1 H1 : Hp) (x : V) (H2 : Hp), ds[i]? = some d → Same F F1 → Same F1 H1 → Y i H1 x H2 → Out K F1 H1 H2 (.dat d) x
def SimI (K : PySem.W.Frag) (W : WX) (xc : XC) (wi : TI) (t : DTI) : Prop := ∀ (G : Fr) (ρ : List Slot) (F : Hp) (σ : L2.St) (H : Hp) (Q : List PyData → List Slot → Prop) (R : It → Hp → Prop), G.K = K → XOk W xc G → StOk G ρ F σ H → t ρ Q →
  (∀ (J : It) (ds : List PyData) (ρ' : List Slot) (F' H' : Hp), Q ds ρ' → StOk G ρ' F' σ H' → Step G ρ F σ H ρ' F' H' → Gives G.K J ds F' H' → R J H') → wi σ H R
structure DI (X : Cx) (W : WX) (xc : XC) (tg iter : Expr) (wi : TI) (t : DTI) : Prop where
  p : PI X tg iter wi
  s : SimI X.K W xc wi t
section
variable {X : Cx} {W : WX} {xc : XC} {tg l a b c e : Expr} {es : List Expr} {ua ub ue : TE} {ut uu : TT} {ul : TA} {ta tb te : DTE} {tt tu : DTT} {tl : DTA} {pos : Pos} {K : PySem.W.Frag}

/-- a list or a tuple -/
def iSeq (K : PySem.W.Frag) (tl : TE) : TI := fun σ H R => tl σ H fun x H1 => ∃ a, x = .ref a ∧ (((∃ xs, SqL K H1 a xs) ∧ R (Itl K a) H1) ∨ ((∃ xs, SqT K H1 a xs) ∧ R (Itt K a) H1))
theorem pi_seq (hl : PE X l ue) : PI X tg l (iSeq X.K ue) := by
  refine ⟨fun pins s σ H R I h => ?_⟩
  refine thn (hl.run pins s σ H _ I h) fun v s1 ⟨x, H1, I1, r1, q1⟩ => ?_
  obtain ⟨a, e, q1⟩ := q1
  subst e
  cases r1
  rcases q1 with ⟨⟨xs, hq⟩, q⟩ | ⟨⟨xs, hq⟩, q⟩
  · obtain ⟨its, rv, p, hz⟩ := I1.list hq
    refine wpAny_pyIter_list p.isList ?_
    refine ⟨s1.heap.objs.size, [s1.heap.objs.size], _, _, H1, rfl, I1.kept (t' := s1.toks) fun b o e => Heap.get?_push_of_some _ e, turn_list a _, ⟨_, Heap.get?_push_size _ rfl, rfl, rfl⟩, fun b hb => ?_, q⟩
    have e : b = s1.heap.objs.size := by simpa using hb
    subst e
    exact I1.fpOk (Nat.le_refl _) (I1.hok.fresh (Nat.le_refl _))
  · obtain ⟨its, rv, p, hz⟩ := I1.tuple hq
    refine wpAny_pyIter_tuple (show s1.heap.IsTuple a its.toArray from p) ?_
    refine ⟨s1.heap.objs.size, [s1.heap.objs.size], _, _, H1, rfl, I1.kept (t' := s1.toks) fun b o e => Heap.get?_push_of_some _ e, turn_tuple a _, ⟨_, Heap.get?_push_size _ rfl, rfl, rfl⟩, fun b hb => ?_, q⟩
    have e : b = s1.heap.objs.size := by simpa using hb
    subst e
    exact I1.fpOk (Nat.le_refl _) (I1.hok.fresh (Nat.le_refl _))
def seqD : Slot → Option (List PyData)
  | .dat (.list ds) => some ds
  | .dat (.tuple ds) => some ds
  | _ => none
def dSeqI (te : DTE) : DTI := fun ρ Q => te ρ fun r ρ1 => withL (seqD (frz ρ1 r).1) fun ds => Q ds (frz ρ1 r).2
theorem sim_seqI (h : SimE K W xc ue te) : SimI K W xc (iSeq K ue) (dSeqI te) := by
  intro G ρ F σ H Q R hK hx I q k
  refine h G ρ F σ H _ _ hK hx I q fun v r ρ1 F1 H1 q I1 R1 e1 f1 => ?_
  obtain ⟨ds, l, q⟩ := q.out
  obtain ⟨F2, I2, e2, n2, S, o, w⟩ := I1.freezeP R1 e1 f1
  subst hK
  cases z : (frz ρ1 r).1 with
  | dat d =>
    rw [z] at l S
    cases d with
    | list es =>
      cases l
      simp only [SlotOk, Rep] at S
      obtain ⟨a, vs, rfl, h2, h3⟩ := S
      have h2 : SqL G.K F2 a vs := SqL.of h2
      refine ⟨a, rfl, .inl ⟨⟨vs, same_l I2.ex h2⟩, k _ ds _ F2 H1 q I2 e2 ⟨_, _, h3.length ▸ walk_list (xs := vs), fun F3 H3 y1 y2 => same_l (y1.trans y2) h2, fun i d F3 H3 x H4 hd y1 y2 y => ?_⟩⟩⟩
      obtain ⟨rfl, y⟩ := y
      obtain ⟨u, u1, u2⟩ := h3.get hd
      rw [y] at u1; cases u1
      exact .dat (Rep.mono y1 _ _ u2)
    | tuple es =>
      cases l
      simp only [SlotOk, Rep] at S
      obtain ⟨a, vs, rfl, h2, h3⟩ := S
      have h2 : SqT G.K F2 a vs := SqT.of h2
      refine ⟨a, rfl, .inr ⟨⟨vs, same_t I2.ex h2⟩, k _ ds _ F2 H1 q I2 e2 ⟨_, _, h3.length ▸ walk_tup (xs := vs), fun F3 H3 y1 y2 => same_t (y1.trans y2) h2, fun i d F3 H3 x H4 hd y1 y2 y => ?_⟩⟩⟩
      obtain ⟨rfl, y⟩ := y
      obtain ⟨u, u1, u2⟩ := h3.get hd
      rw [y] at u1; cases u1
      exact .dat (Rep.mono y1 _ _ u2)
    | none => cases l
    | bool _ => cases l
    | int _ => cases l
    | str _ => cases l
    | dict _ => cases l
  | un => rw [z] at l; cases l
  | own _ => rw [z] at l; cases l
  | ownT _ => rw [z] at l; cases l
  | ownK _ => rw [z] at l; cases l
  | vw _ => rw [z] at l; cases l
  | bag => rw [z] at l; cases l
  | ext _ => rw [z] at l; cases l
theorem di_seq (h : DE X W xc l ue te) : DI X W xc tg l (iSeq X.K ue) (dSeqI te) := ⟨pi_seq h.p, sim_seqI h.s⟩
/-- a text, sign by sign -/
def signs (x : Str) : List PyData := x.cps.toList.map fun c => .str ⟨#[c]⟩
def dStrI (te : DTE) : DTI := fun ρ Q => te ρ fun r ρ1 => withD (look ρ1 r) fun d => match d with
  | .str x => Q (signs x) ρ1
  | _ => False
theorem di_str (h : DE X W xc l ue te) : DI X W xc tg l (iStr ue) (dStrI te) := by
  refine ⟨pi_str h.p, fun G ρ F σ H Q R hK hx I q k => ?_⟩
  refine h.s G ρ F σ H _ _ hK hx I q fun v r ρ1 F1 H1 q I1 R1 e1 f1 => ?_
  obtain ⟨d, l, q⟩ := q.out
  have z := I1.vw R1.1 l
  cases d with
  | str x =>
    have w : Walk (Its x) (signs x).length (fun _ => True) (fun i H v H' => H' = H ∧ ∃ c, x.cps[i]? = some c ∧ v = .str ⟨#[c]⟩) := by
      have : (signs x).length = x.cps.size := by simp [signs]
      rw [this]; exact walk_str (z := x)
    refine ⟨x, (show v = .str x by simpa only [Vw, Rep] using z), k _ _ ρ1 F1 H1 q I1 e1 ⟨_, _, w, fun _ _ _ _ => trivial, fun i d F3 H3 x' H4 hd y1 y2 y => ?_⟩⟩
    obtain ⟨rfl, c, hc, rfl⟩ := y
    have : d = .str ⟨#[c]⟩ := by
      simp only [signs, List.getElem?_map] at hd
      rw [show x.cps.toList[i]? = some c by simpa using hc] at hd
      cases hd; rfl
    subst this
    exact .dat (by simp only [Rep])
  | none => exact q.elim
  | bool _ => exact q.elim
  | int _ => exact q.elim
  | list _ => exact q.elim
  | tuple _ => exact q.elim
  | dict _ => exact q.elim
/-- range(n), range(a, b) -/
def ups (lo : Int) (n : Nat) : List PyData := (List.range n).map fun (i : Nat) => .int (lo + (i : Int))
theorem gives_range {G : Fr} {F H : Hp} (lo : Int) (n : Nat) : Gives K (Itr lo n) (ups lo n) F H := by
  have w : Walk (Itr lo n) (ups lo n).length (fun _ => True) (YFn fun i => .int (lo + i)) := by
    have : (ups lo n).length = n := by simp [ups]
    rw [this]; exact walk_range
  refine ⟨_, _, w, fun _ _ _ _ => trivial, fun i d F3 H3 x H4 hd y1 y2 y => ?_⟩
  obtain ⟨rfl, rfl⟩ := y
  have : d = .int (lo + (i : Int)) := by
    simp only [ups, List.getElem?_map] at hd
    have hi : i < n := by
      cases q : (List.range n)[i]? with
      | none => rw [q] at hd; cases hd
      | some j => exact by have := (List.getElem?_eq_some_iff.mp q).1; simpa using this
    rw [List.getElem?_range hi] at hd
    cases hd; rfl
  subst this
  exact .dat (by simp only [Rep])
def dRng1 (tl : DTA) : DTI := fun ρ Q => tl ρ fun rs ρ1 => withL (looks ρ1 rs) fun ds => match ds with
  | [.int j] => (-(2 ^ 62) ≤ j ∧ j < 2 ^ 62) ∧ Q (ups 0 j.toNat) ρ1
  | _ => False
def dRng2 (tl : DTA) : DTI := fun ρ Q => tl ρ fun rs ρ1 => withL (looks ρ1 rs) fun ds => match ds with
  | [.int i, .int j] => (-(2 ^ 62) ≤ i ∧ i < 2 ^ 62 ∧ -(2 ^ 62) ≤ j ∧ j < 2 ^ 62) ∧ Q (ups i (j - i).toNat) ρ1
  | _ => False
theorem di_rng1 {p : Pos} (ha : DA X W xc [a] ul tl) (hm : X.mg "range" = none) (hg : Gl X "range" := by rfl) (hs : starEach [a] X.env = [(false, eval a X.env)] := by rfl) : DI X W xc tg (.Call (.Name "range" p) [a] [] pos) (iRng1 ul) (dRng1 tl) := by
  refine ⟨pi_range1 hg hm ha.p hs, fun G ρ F σ H Q R hK hx I q k => ?_⟩
  refine ha.s G ρ F σ H _ _ hK hx I q fun vs rs ρ1 F1 H1 q I1 A1 e1 => ?_
  obtain ⟨ds, l, q⟩ := q.out
  have z := A1.vws I1 l
  match ds, q, z with
  | [.int j], ⟨⟨q1, q2⟩, q⟩, ⟨v, ws, e2, e3, e4⟩ =>
    have e4 : ws = [] := e4
    have e3 : v = .int j := by simpa only [Vw, Rep] using e3
    subst e4 e3
    exact ⟨j, e2, q1, q2, k _ _ ρ1 F1 H1 q I1 e1 (gives_range (G := G) 0 j.toNat)⟩
theorem di_rng2 {p : Pos} (ha : DA X W xc [a, b] ul tl) (hm : X.mg "range" = none) (hg : Gl X "range" := by rfl) (hs : starEach [a, b] X.env = [(false, eval a X.env), (false, eval b X.env)] := by rfl) (hs2 : starEach [b] X.env = [(false, eval b X.env)] := by rfl) : DI X W xc tg (.Call (.Name "range" p) [a, b] [] pos) (iRng2 ul) (dRng2 tl) := by
  refine ⟨pi_range2 hg hm ha.p hs hs2, fun G ρ F σ H Q R hK hx I q k => ?_⟩
  refine ha.s G ρ F σ H _ _ hK hx I q fun vs rs ρ1 F1 H1 q I1 A1 e1 => ?_
  obtain ⟨ds, l, q⟩ := q.out
  have z := A1.vws I1 l
  match ds, q, z with
  | [.int i, .int j], ⟨q1, q⟩, ⟨v, ws, e2, e3, u, ws2, e4, e5, e6⟩ =>
    have e6 : ws2 = [] := e6
    have e3 : v = .int i := by simpa only [Vw, Rep] using e3
    have e5 : u = .int j := by simpa only [Vw, Rep] using e5
    subst e6 e3 e5 e4
    exact ⟨i, j, e2, q1, k _ _ ρ1 F1 H1 q I1 e1 (gives_range (G := G) i (j - i).toNat)⟩
/-- enumerate(list) -/
def numbered (ds : List PyData) : List PyData := ds.zipIdx.map fun p => .tuple [.int (p.2 : Int), p.1]
def oneL : List Slot → Option (List PyData)
  | [.dat (.list ds)] => some ds
  | _ => none
theorem oneL_ok {G : Fr} {F H : Hp} {σ : L2.St} {rs : List Slot} {vs : List V} {ds : List PyData} (A : AllOk G F H σ rs vs) (h : oneL rs = some ds) : ∃ a xs, vs = [.ref a] ∧ SqL G.K F a xs ∧ Reps G.K F ds xs := by
  unfold oneL at h
  split at h
  · cases h
    obtain ⟨v, ws, y1, _, y2, y3⟩ := A
    have y3 : ws = [] := y3
    subst y3
    simp only [SlotOk, Rep] at y2
    obtain ⟨a', xs, rfl, h2, h3⟩ := y2
    exact ⟨a', xs, y1, SqL.of h2, h3⟩
  · cases h
def dEnum (tl : DTA) : DTI := fun ρ Q => tl ρ fun rs ρ1 => withL (oneL (frzL ρ1 rs).1) fun ds => Q (numbered ds) (frzL ρ1 rs).2
theorem di_enum {p tpos : Pos} {elts : List Expr} {kk : Nat} (ha : DA X W xc [a] ul tl) (hm : X.mg "enumerate" = none) (hg : Gl X "enumerate" := by rfl) (hs : starEach [a] X.env = [(false, eval a X.env)] := by rfl) :
    DI X W xc (.Tuple elts kk tpos) (.Call (.Name "enumerate" p) [a] [] pos) (iEnum X.K ul) (dEnum tl) := by
  refine ⟨pi_enum hg hm ha.p hs, fun G ρ F σ H Q R hK hx I q k => ?_⟩
  refine ha.s G ρ F σ H _ _ hK hx I q fun vs rs ρ1 F1 H1 q I1 A1 e1 => ?_
  obtain ⟨F2, I2, e2, n2, A2, w2⟩ := I1.freezeL A1 e1
  rw [← hK]
  obtain ⟨ds, l, q⟩ := q.out
  obtain ⟨a', xs, y1, h2, h3⟩ := oneL_ok A2 l
  have w : Walk (Ite G.K a') (numbered ds).length (fun H => SqL G.K H a' xs) (YPair (fun i => some (.int (i : Nat))) (fun i => xs[i]?)) := by
    have : (numbered ds).length = xs.length := by simp [numbered, h3.length]
    rw [this]; exact walk_enum
  refine ⟨a', xs, y1, same_l I2.ex h2, k _ (numbered ds) _ F2 H1 q I2 e2 ⟨_, _, w, fun F3 H3 u1 u2 => same_l (u1.trans u2) h2, fun i d F3 H3 x H4 hd u1 u2 y => ?_⟩⟩
  obtain ⟨T, x1, x2, rfl, hT, rfl, hx1, hx2⟩ := y
  cases hx1
  obtain ⟨d2, g1, g2⟩ := h3.get' hx2
  have : d = .tuple [.int (i : Int), d2] := by
    simp only [numbered, List.getElem?_map, List.getElem?_zipIdx, g1] at hd
    simp at hd
    exact hd.symm
  subst this
  exact .tup hT (Reps.cons (by simp only [Rep]) (Reps.cons (Rep.mono u1 _ _ g2) Reps.nil))

/-! ### for -/
/-- Inv by the number of turns done -/
def dFor (ti : DTI) (g : DTG) (tb : DTS) : DTS := fun D ρ => ti ρ fun ds ρ1 => ∃ Inv : Nat → List Slot → Prop, Inv 0 ρ1 ∧
  (∀ (i : Nat) (d : PyData) (ρ' : List Slot), ds[i]? = some d → Inv i ρ' → g (.dat d) ρ' fun ρ2 => tb { D with nx := Inv (i + 1), ct := Inv (i + 1), bk := D.nx } ρ2) ∧ ∀ ρ', Inv ds.length ρ' → D.nx ρ'
theorem sim_for {wi : TI} {g : TG} {gd : DTG} {js : List Nat} {us : TS} {ti : DTI} {t : DTS} (hi : SimI K W xc wi ti) (hg : SimG K g gd js) (hb : SimS K W xc us t) : SimS K W xc (tFor wi g us) (dFor ti gd t) := by
  intro G ρ F σ H D DD hK hx I q k
  refine hi G ρ F σ H _ _ hK hx I q fun J ds ρ1 F1 H1 q I1 e1 gv => ?_
  obtain ⟨Inv, h0, hs, hd⟩ := q
  obtain ⟨Gd, Y, w, hG, hY⟩ := gv.w
  refine for_it w (fun i σ' H' => ∃ ρ' F', Inv i ρ' ∧ StOk G ρ' F' σ' H' ∧ Same F1 F') ⟨ρ1, F1, h0, I1, Same.refl F1⟩ (fun i σ' H' _ ⟨ρ', F', _, I', e'⟩ => hG F' H' e' I'.ex) (fun i x σ' H' H'' hi ⟨ρ', F', iv, I', e'⟩ y => ?_) fun σ' H' ⟨ρ', F', iv, I', e'⟩ => k.nx ρ' F' σ' H' (hd ρ' iv) I' (e1.f.trans e')
  have hd' : ds[i]? = some ds[i] := List.getElem?_eq_getElem hi
  subst hK
  obtain ⟨F2, I2, e2, R2, _⟩ := (hY i _ F' H' x H'' hd' e' I'.ex y).ok I'
  refine hg G ρ' F2 σ' H'' _ x _ _ rfl I2 R2 rfl (hs i _ ρ' hd' iv) fun ρ2 σ2 q2 I3 _ => ?_
  have ex : Same F1 F2 := e'.trans e2.f
  exact hb G ρ2 F2 σ2 H'' _ _ rfl hx I3 q2 ⟨fun ρ3 F3 σ3 H3 n I4 e4 => ⟨ρ3, F3, n, I4, ex.trans e4⟩, fun v r ρ3 F3 σ3 H3 q4 I4 R4 hv e4 => k.rt v r ρ3 F3 σ3 H3 q4 I4 R4 hv (e1.f.trans (ex.trans e4)),
    fun ρ3 F3 σ3 H3 n I4 e4 => k.nx ρ3 F3 σ3 H3 n I4 (e1.f.trans (ex.trans e4)), fun ρ3 F3 σ3 H3 n I4 e4 => ⟨ρ3, F3, n, I4, ex.trans e4⟩⟩
theorem ds_for {iter : Expr} {body : List Stmt} {wi : TI} {g : TG} {gd : DTG} {js : List Nat} {us : TS} {ti : DTI} {t : DTS} (hp : PassesOwn (model X.prog X.w) X.A X.env X.xe) (hc : X.calm = true) (hi : DI X W xc tg iter wi ti) (hg : DG X tg g gd js) (hb : DSs X W xc body us t)
    (hs : ∀ x, foldedSetIterable iter X.env x = pure x := by intro _; rfl) : DS X W xc (.For tg iter body [] pos) (tFor wi g us) (dFor ti gd t) := ⟨ps_for hp hc hi.p hg.p hb.p hs, sim_for hi.s hg.s hb.s⟩
/-- while: Inv with a measure -/
def dWhile (c : DTT) (tb : DTS) : DTS := fun D ρ => ∃ Inv : Nat → List Slot → Prop, (∃ m, Inv m ρ) ∧ ∀ (m : Nat) (ρ' : List Slot), Inv m ρ' → c ρ' fun b ρ1 => if b = true then tb { D with nx := fun ρ2 => ∃ m', m' < m ∧ Inv m' ρ2, ct := fun ρ2 => ∃ m', m' < m ∧ Inv m' ρ2, bk := D.nx } ρ1 else D.nx ρ1
theorem sim_while {us : TS} {t : DTS} (hc : SimT K W xc ut tt) (hb : SimS K W xc us t) : SimS K W xc (tWhile ut us) (dWhile tt t) := by
  intro G ρ F σ H D DD hK hx I q k
  obtain ⟨Inv, ⟨m0, h0⟩, hs⟩ := q
  refine ⟨fun m σ' H' => ∃ ρ' F', Inv m ρ' ∧ StOk G ρ' F' σ' H' ∧ Same F F', ⟨m0, ρ, F, h0, I, Same.refl F⟩, fun m σ' H' ⟨ρ', F', iv, I', e'⟩ => ?_⟩
  refine hc G ρ' F' σ' H' _ _ hK hx I' (hs m ρ' iv) fun b ρ1 F1 H1 q I1 e1 => ?_
  cases b with
  | false => exact k.nx ρ1 F1 σ' H1 q I1 (e'.trans e1.f)
  | true =>
    refine ⟨fun σ2 H2 => ∃ m', m' < m ∧ ∃ ρ' F', Inv m' ρ' ∧ StOk G ρ' F' σ2 H2 ∧ Same F F', fun σ2 H2 ⟨m', l, z⟩ => ⟨m', l, z⟩, ?_⟩
    have ex : Same F F1 := e'.trans e1.f
    exact hb G ρ1 F1 σ' H1 _ _ hK hx I1 q ⟨fun ρ3 F3 σ3 H3 ⟨m', l, n⟩ I4 e4 => ⟨m', l, ρ3, F3, n, I4, ex.trans e4⟩, fun v r ρ3 F3 σ3 H3 q4 I4 R4 hv e4 => k.rt v r ρ3 F3 σ3 H3 q4 I4 R4 hv (ex.trans e4),
      fun ρ3 F3 σ3 H3 n I4 e4 => k.nx ρ3 F3 σ3 H3 n I4 (ex.trans e4), fun ρ3 F3 σ3 H3 ⟨m', l, n⟩ I4 e4 => ⟨m', l, ρ3, F3, n, I4, ex.trans e4⟩⟩
theorem ds_while {body : List Stmt} {us : TS} {t : DTS} (hp : PassesOwn (model X.prog X.w) X.A X.env X.xe) (hc : DC X W xc c ut tt) (hb : DSs X W xc body us t) : DS X W xc (.While c body [] pos) (tWhile ut us) (dWhile tt t) := ⟨ps_while hp hc.p hb.p, sim_while hc.s hb.s⟩
end
end DL

-- part DComp
set_option Elab.async false
set_option maxRecDepth 100000
set_option maxHeartbeats 400000
namespace DL
open PySem L2

def wipeD (ρ : List Slot) : List Nat → List Slot
  | [] => ρ
  | v :: vs => (wipeD ρ vs).set v .un
theorem wipeD_length (ρ : List Slot) : ∀ vs : List Nat, (wipeD ρ vs).length = ρ.length
  | [] => rfl
  | v :: vs => by unfold wipeD; rw [List.length_set, wipeD_length ρ vs]
theorem wipeD_get {ρ : List Slot} {i : Nat} : ∀ {vs : List Nat}, (wipeD ρ vs)[i]? = if i ∈ vs ∧ i < ρ.length then some .un else ρ[i]?
  | [] => by rw [if_neg (by simp)]; rfl
  | v :: vs => by
    unfold wipeD
    rw [List.getElem?_set]
    by_cases e : v = i
    · subst e
      rw [if_pos rfl, wipeD_length]
      by_cases h : v < ρ.length
      · rw [if_pos h, if_pos ⟨List.mem_cons_self, h⟩]
      · rw [if_neg h, if_neg (fun z => h z.2)]
        exact (List.getElem?_eq_none (by omega)).symm
    · rw [if_neg e, wipeD_get]
      have : (i ∈ v :: vs) ↔ i ∈ vs := by simp only [List.mem_cons]; exact ⟨fun z => z.resolve_left fun q => e q.symm, .inr⟩
      simp only [this]
theorem wipeD_out {ρ : List Slot} {i : Nat} {vs : List Nat} (h : i ∉ vs) : (wipeD ρ vs)[i]? = ρ[i]? := by rw [wipeD_get, if_neg fun z => h z.1]
def noOwnAt (ρ : List Slot) (vs : List Nat) : Bool := vs.all fun j => match ρ[j]? with
  | some s => !s.isOwn
  | none => true
theorem noOwnAt_at {ρ : List Slot} {vs : List Nat} (h : noOwnAt ρ vs = true) {j : Nat} {s : Slot} (hj : j ∈ vs) (e : ρ[j]? = some s) : s.isOwn = false := by
  have := List.all_eq_true.mp h j hj
  rw [e] at this
  simpa using this
section
variable {G : Fr} {ρ ρ1 ρ2 ρ5 : List Slot} {F F' F5 H H' H5 : Hp} {σ σ2 : L2.St} {vs : List Nat}
theorem StOk.blk (I : StOk G ρ F σ H) (vs : List Nat) : StOk G (wipeD ρ vs) F (wipe σ vs) H := by
  have g : ∀ (i : Nat) (s : Slot), (wipeD ρ vs)[i]? = some s → s = .un ∨ (ρ[i]? = some s ∧ (wipe σ vs)[i]? = σ[i]?) := fun i s h => by
    rw [wipeD_get] at h
    by_cases c : i ∈ vs ∧ i < ρ.length
    · rw [if_pos c] at h; cases h; exact .inl rfl
    · rw [if_neg c] at h
      refine .inr ⟨h, ?_⟩
      rw [wipe_get, if_neg (by rw [← I.len]; exact c)]
  refine ⟨by rw [wipeD_length, wipe_length]; exact I.len, fun i s h => ?_, fun i s h => ?_, fun i j s t l h1 h2 o1 o2 e1 e2 => ?_, I.ex, I.exF, I.keep, I.new, I.bag⟩
  · rcases g i s h with z | ⟨z, y⟩
    · exact .inl z
    · rcases I.slot i s z with q | ⟨v, q1, q2⟩
      · exact .inl q
      · exact .inr ⟨v, by rw [y]; exact q1, SlotOk.sig q2 (I.novw i s z)⟩
  · rcases g i s h with z | ⟨z, _⟩
    · subst z; rfl
    · exact I.novw i s z
  · rcases g i s h1 with z | ⟨z, y⟩
    · subst z; cases o1
    · rcases g j t h2 with z' | ⟨z', y'⟩
      · subst z'; cases o2
      · rw [y] at e1; rw [y'] at e2
        exact I.inj i j s t l z z' o1 o2 e1 e2
theorem wipe_out' {σ : L2.St} {i : Nat} {vs : List Nat} (h : i ∉ vs) : (wipe σ vs)[i]? = σ[i]? := by rw [wipe_get, if_neg fun z => h z.1]
theorem StOk.unblk (I : StOk G ρ1 F' σ H') (J : StOk G ρ5 F5 σ2 H5) (e : Step G ρ2 F' σ2 H' ρ5 F5 H5) (c1 : noOwnAt ρ1 vs = true) (c2 : wipeD ρ2 vs = wipeD ρ1 vs) (c3 : noOwnAt ρ2 vs = true) (c5 : wipeD ρ5 vs = wipeD ρ1 vs) (w : wipe σ2 vs = wipe σ vs) :
    StOk G ρ1 F5 σ H5 ∧ Step G ρ1 F' σ H' ρ1 F5 H5 := by
  have r5 : ∀ i, i ∉ vs → ρ5[i]? = ρ1[i]? := fun i h => by rw [← wipeD_out h, c5, wipeD_out h]
  have r2 : ∀ i, i ∉ vs → ρ2[i]? = ρ1[i]? := fun i h => by rw [← wipeD_out h, c2, wipeD_out h]
  have s2 : ∀ i, i ∉ vs → σ2[i]? = σ[i]? := fun i h => by rw [← wipe_out' h, w, wipe_out' h]
  have own : ∀ (j : Nat) (s : Slot), ρ1[j]? = some s → s.isOwn = true → j ∉ vs := fun j s h o hj => by
    rw [noOwnAt_at c1 hj h] at o; cases o
  have own2 : ∀ (j : Nat) (s : Slot), ρ2[j]? = some s → s.isOwn = true → j ∉ vs := fun j s h o hj => by
    rw [noOwnAt_at c3 hj h] at o; cases o
  refine ⟨⟨I.len, fun i s h => ?_, I.novw, fun i j s t l h1 h2 o1 o2 e1 e2 => ?_, J.ex, J.exF, J.keep, J.new, J.bag⟩, ⟨e.f, fun l o h hb hn => ?_, fun _ s h o => ⟨s, h, o⟩, fun l o h => ?_, e.th⟩⟩
  · by_cases hi : i ∈ vs
    · rcases I.slot i s h with q | ⟨v, q1, q2⟩
      · exact .inl q
      · exact .inr ⟨v, q1, (q2.later (noOwnAt_at c1 hi h) e.f)⟩
    · rcases J.slot i s (by rw [r5 i hi]; exact h) with q | ⟨v, q1, q2⟩
      · exact .inl q
      · exact .inr ⟨v, by rw [← s2 i hi]; exact q1, SlotOk.sig q2 (I.novw i s h)⟩
  · have n1 := own i s h1 o1
    have n2 := own j t h2 o2
    exact J.inj i j s t l (by rw [r5 i n1]; exact h1) (by rw [r5 j n2]; exact h2) o1 o2 (by rw [s2 i n1]; exact e1) (by rw [s2 j n2]; exact e2)
  · refine e.k l o h hb fun j s h1 o1 z => ?_
    have nj := own2 j s h1 o1
    exact hn j s (by rw [← r2 j nj]; exact h1) o1 (by rw [← s2 j nj]; exact z)
  · rcases e.n l o h with z | z | ⟨j, s, z1, z2, z3⟩ | z
    · exact .inl z
    · exact .inr (.inl z)
    · have nj := own2 j s z1 z2
      exact .inr (.inr (.inl ⟨j, s, by rw [← r2 j nj]; exact z1, z2, by rw [← s2 j nj]; exact z3⟩))
    · exact .inr (.inr (.inr z))
/-- an object that no slot and no data know is changed -/
theorem StOk.loose (I : StOk G ρ F σ H) {D : Addr} {o u : HO} (hF : F D = none) (h0 : G.H0 D = none) (hb : G.b ≠ some D) (hn : ∀ (j : Nat) (s : Slot), ρ[j]? = some s → s.isOwn = true → σ[j]? ≠ some (some (.ref D))) : StOk G ρ F σ (upd H D u) := by
  refine ⟨I.len, fun i s h => ?_, I.novw, I.inj, fun l o h => ?_, I.exF, fun l o h hb' => ?_, I.new, fun l h => ?_⟩
  · rcases I.slot i s h with q | ⟨v, q1, q2⟩
    · exact .inl q
    · refine .inr ⟨v, q1, q2.move (I.novw i s h) (Same.refl F) (fun l o ho e q => ?_) fun l ho e => ?_⟩
      · subst e
        rw [upd_ne (fun z => by subst z; exact hn i s h ho q1)]; exact q
      · subst e
        obtain ⟨l', _, z, z2, _⟩ := own_addr q2 ho
        cases z; exact z2
  · rw [upd_ne (ne_of_none h hF)]; exact I.ex l o h
  · rw [upd_ne (ne_of_none h h0)]; exact I.keep l o h hb'
  · obtain ⟨q, o0, q0⟩ := I.bag l h
    have ne : l ≠ D := fun z => by subst z; exact hb h
    exact ⟨q.mono (Same.refl F) q.1 (upd_ne ne), o0, q0⟩
end

section
variable {X : Cx} {W : WX} {xc : XC} {tg iter elt c : Expr} {ifs : List Expr} {wi : TI} {g : TG} {tt ut : TT} {te : TE} {ti : DTI} {gd : DTG} {dt : DTT} {de : DTE} {js : List Nat} {pos : Pos} {K : PySem.W.Frag}
abbrev W0 : WX := fun _ _ _ _ => False
abbrev xc0 : XC := fun _ _ _ => False
/-- the tests of a comprehension -/
structure DTs (X : Cx) (W : WX) (xc : XC) (ifs : List Expr) (tt : TT) (t : DTT) : Prop where
  p : PTs X ifs tt
  s : SimT X.K W xc tt t
def dYes : DTT := fun ρ Q => Q true ρ
theorem dts_nil : DTs X W xc [] tYes dYes := ⟨pts_nil, fun G ρ F σ H Q QQ hK hx I q k => k true ρ F H q I Step.refl⟩
theorem dts_one (h : DC X W xc c ut dt) : DTs X W xc [c] ut dt := ⟨pts_one h.p, h.s⟩
def withDat (r : Slot) (k : PyData → Prop) : Prop := match r with
  | .dat d => k d
  | _ => False
theorem withDat.out {r : Slot} {k : PyData → Prop} (h : withDat r k) : ∃ d, r = .dat d ∧ k d := by
  cases r <;> first | exact ⟨_, rfl, h⟩ | exact h.elim
/-- [elt for tg in iter if ..]: Inv by the number of turns done and what is made so far -/
def dLc (ti : DTI) (g : DTG) (tt : DTT) (te : DTE) (vs : List Nat) : DTE := fun ρ Q => ti ρ fun ds ρ1 => noOwnAt ρ1 vs = true ∧ ∃ Inv : Nat → List PyData → Prop, Inv 0 [] ∧
  (∀ (i : Nat) (d : PyData) (acc : List PyData), ds[i]? = some d → Inv i acc → g (.dat d) (wipeD ρ1 vs) fun ρ2 => (wipeD ρ2 vs = wipeD ρ1 vs ∧ noOwnAt ρ2 vs = true) ∧ tt ρ2 fun b ρ3 =>
    if b = true then te ρ3 fun r ρ4 => wipeD (frz ρ4 r).2 vs = wipeD ρ1 vs ∧ withDat (frz ρ4 r).1 fun y => acc.length < 100000 ∧ Inv (i + 1) (acc ++ [y])
    else wipeD ρ3 vs = wipeD ρ1 vs ∧ Inv (i + 1) acc) ∧
  ∀ acc, Inv ds.length acc → Q (.own acc) ρ1
theorem sim_lc {vs : List Nat} (hjs : ∀ j ∈ js, j ∈ vs) (hi : SimI K W xc wi ti) (hg : SimG K g gd js) (ht : SimT K W0 xc0 tt dt) (he : SimE K W0 xc0 te de) : SimE K W xc (tLc wi g tt te vs) (dLc ti gd dt de vs) := by
  intro G ρ F σ H Q QQ hK hx I q k
  have hx0 : XOk W0 xc0 G := fun _ _ _ _ _ _ _ _ z => z.elim
  refine hi G ρ F σ H _ _ hK hx I q fun J ds ρ1 F1 H1 q I1 e1 gv => ?_
  obtain ⟨c1, Inv, h0, hs, hd⟩ := q
  obtain ⟨Gd, Y, w, hG, hY⟩ := gv.w
  intro D hD
  have ownD : ∀ (j : Nat) (s : Slot), ρ1[j]? = some s → s.isOwn = true → σ[j]? ≠ some (some (.ref D)) := fun j s h o z => I1.own_ne hD h o z rfl
  have bagD : G.b ≠ some D := fun z => by
    obtain ⟨⟨_, n1, n2, n3, c, ns, y, _⟩, _⟩ := I1.bag D z
    rw [hD] at y; cases y
  have zeroD : G.H0 D = none := I1.free0 hD
  subst hK
  refine lc_it w (fun i H' => ∃ acc F' ws, Inv i acc ∧ StOk G ρ1 F' σ H' ∧ Step G ρ1 F1 σ H1 ρ1 F' H' ∧ H' D = some (.lst ws) ∧ F' D = none ∧ Reps G.K F' acc ws)
    ⟨[], F1, [], h0, I1.alloc hD, Step.same (Same.refl F1) (same_upd hD) fun _ _ h => .inl h, upd_same, I1.freeF hD, Reps.nil⟩ (fun i H' _ ⟨acc, F', ws, _, I', e', _⟩ => hG F' H' e'.f I'.ex)
    (fun i x H' H'' hi ⟨acc, F', ws, iv, I', e', hDl, hFD, R'⟩ y => ?_) fun H' ⟨acc, F', ws, iv, I', e', hDl, hFD, R'⟩ => ?_
  · have hd' : ds[i]? = some ds[i] := List.getElem?_eq_getElem hi
    obtain ⟨F2, I2, e2, R2, _⟩ := (hY i _ F' H' x H'' hd' e'.f I'.ex y).ok I'
    have hDl2 : H'' D = some (.lst ws) := e2.k D _ hDl bagD ownD
    have hFD2 : F2 D = none := by
      cases q : F2 D with
      | none => rfl
      | some o =>
        rcases e2.n D o q with z | z | ⟨j, s, z1, z2, z3⟩ | z
        · rw [hFD] at z; cases z
        · rw [hDl] at z; cases z
        · exact absurd z3 (ownD j s z1 z2)
        · have y := I2.ex _ _ q
          rw [hDl2] at y; cases y; cases z
    have IB := I2.blk vs
    refine hg G _ F2 (wipe σ vs) H'' (.dat ds[i]) x _ _ rfl IB ⟨R2.1, fun z => by cases z⟩ rfl (hs i _ acc hd' iv) fun ρ2 σ2 q2 I3 w3 => ?_
    obtain ⟨⟨c2, c3⟩, q2⟩ := q2
    have w3 : wipe σ2 vs = wipe σ vs := (w3 vs hjs).trans wipe_wipe
    refine ⟨w3, ?_⟩
    refine ht G ρ2 F2 σ2 H'' _ _ rfl hx0 I3 q2 fun b ρ3 F3 H3 q3 I4 e4 => ?_
    -- back to the outer slots
    have back : ∀ {ρ5 : List Slot} {F5 H5 : Hp}, StOk G ρ5 F5 σ2 H5 → Step G ρ2 F2 σ2 H'' ρ5 F5 H5 → wipeD ρ5 vs = wipeD ρ1 vs → StOk G ρ1 F5 σ H5 ∧ Step G ρ1 F1 σ H1 ρ1 F5 H5 ∧ H5 D = some (.lst ws) ∧ F5 D = none ∧ Reps G.K F5 acc ws := fun {ρ5 F5 H5} J e c5 => by
      obtain ⟨J', e'5⟩ := I2.unblk J e c1 c2 c3 c5 w3
      refine ⟨J', (e'.trans e2).trans e'5, e'5.k D _ hDl2 bagD ownD, ?_, Reps.mono (e2.f.trans e'5.f) _ _ R'⟩
      cases q : F5 D with
      | none => rfl
      | some o =>
        rcases e'5.n D o q with z | z | ⟨j, s, z1, z2, z3⟩ | z
        · rw [hFD2] at z; cases z
        · rw [hDl2] at z; cases z
        · exact absurd z3 (ownD j s z1 z2)
        · have y := J.ex _ _ q
          rw [e'5.k D _ hDl2 bagD ownD] at y; cases y; cases z
    cases b with
    | false =>
      rw [if_neg Bool.false_ne_true] at q3 ⊢
      obtain ⟨c5, q3⟩ := q3
      obtain ⟨J', s', a1, a2, a3⟩ := back I4 e4 c5
      exact ⟨acc, F3, ws, q3, J', s', a1, a2, a3⟩
    | true =>
      rw [if_pos rfl] at q3 ⊢
      refine he G ρ3 F3 σ2 H3 _ _ rfl hx0 I4 q3 fun v r ρ4 F4 H4 q4 I5 R5 e5 f5 => ?_
      obtain ⟨c5, q4⟩ := q4
      obtain ⟨yd, ye, q4⟩ := q4.out
      obtain ⟨F5, I6, e6, n6, S6, o6, _⟩ := I5.freezeP R5 (e4.trans e5) (f5.back e4)
      obtain ⟨J', s', a1, a2, a3⟩ := back I6 e6 c5
      rw [ye] at S6
      refine ⟨ws, a1, by rw [R'.length]; exact sz_lt q4.1, acc ++ [yd], F5, ws ++ [v], q4.2, J'.loose (o := .lst ws) a2 zeroD bagD ownD, ?_, upd_same, a2, a3.append (Reps.cons S6 Reps.nil)⟩
      refine ⟨s'.f, fun l o h hb hn => ?_, s'.s, s'.n, fun l h => ?_⟩
      · rw [upd_ne (ne_of_none h hD)]; exact s'.k l o h hb hn
      · by_cases z : l = D
        · subst z; exact hD
        · rw [upd_ne z] at h; exact s'.th l h
  · refine k (.ref D) (.own acc) ρ1 F' H' (hd acc iv) I' ⟨⟨D, ws, rfl, hFD, zeroD, hDl, R'⟩, fun _ i s l h1 h2 h3 h4 => ?_⟩ (e1.trans e') fun _ l z => ?_
    · cases h4; exact ownD i s h1 h2 h3
    · cases z; exact e1.th D hD
variable {scope : Scope} {own : List (Str × Nat)}
theorem de_lc (hc : X.calm = true) (hN : X.N.Nodup) (hi : DI X W xc tg iter wi ti) (ok : blkC X.N X.env.scope scope own = true)
    (hg : ∀ (s : Shared) (H : Hp) (C : Addr) (cl : List (Str × Addr)) (fp : List Addr), DG (X.blk s H scope (compEnvC scope cl C X.env) fp) tg g gd js) (ht : ∀ (s : Shared) (H : Hp) (C : Addr) (cl : List (Str × Addr)) (fp : List Addr), DTs (X.blk s H scope (compEnvC scope cl C X.env) fp) W0 xc0 ifs tt dt)
    (he : ∀ (s : Shared) (H : Hp) (C : Addr) (cl : List (Str × Addr)) (fp : List Addr), DE (X.blk s H scope (compEnvC scope cl C X.env) fp) W0 xc0 elt te de) (hjs : (js.all fun j => (own.map (·.2)).contains j) = true := by rfl) (hs : ∀ x, foldedSetIterable iter X.env x = pure x := by intro _; rfl) :
    DE X W xc (.ListComp elt [⟨tg, iter, ifs, 0⟩] scope pos) (tLc wi g tt te (own.map (·.2))) (dLc ti gd dt de (own.map (·.2))) := by
  have any : Nonempty (Shared × Hp × Addr × List (Str × Addr) × List Addr) := ⟨⟨⟨{}, #[], {}, 0, default⟩, fun _ => none, 0, [], []⟩⟩
  obtain ⟨s, H, C, cl, fp⟩ := any
  exact ⟨pe_lc hc hN hi.p (blkOk_by ok) (fun s H C cl fp => (hg s H C cl fp).p) (fun s H C cl fp => (ht s H C cl fp).p) (fun s H C cl fp => (he s H C cl fp).p) hs,
    sim_lc (fun j hj => by simpa using List.all_eq_true.mp hjs j hj) hi.s (hg s H C cl fp).s (ht s H C cl fp).s (he s H C cl fp).s⟩
end
end DL

-- part DOps
set_option Elab.async false
set_option maxRecDepth 100000
set_option maxHeartbeats 400000
namespace DL
open PySem L2

section
variable {K : PySem.W.Frag} {F H : Hp} {x y : V}
theorem vw_int {i : Int} (h : Vw K F H (.int i) x) : x = .int i := by simpa only [Vw, Rep] using h
theorem vw_str {i : Str} (h : Vw K F H (.str i) x) : x = .str i := by simpa only [Vw, Rep] using h
theorem vw_bl {i : Bool} (h : Vw K F H (.bool i) x) : x = .bl i := by simpa only [Vw, Rep] using h
theorem vw_non (h : Vw K F H .none x) : x = .non := by simpa only [Vw, Rep] using h
theorem out_int {i : Int} : Out K F H H (.dat (.int i)) (.int i) := .dat (by simp only [Rep])
theorem out_str {i : Str} : Out K F H H (.dat (.str i)) (.str i) := .dat (by simp only [Rep])
theorem out_bl {i : Bool} : Out K F H H (.dat (.bool i)) (.bl i) := .dat (by simp only [Rep])
theorem out_non : Out K F H H (.dat .none) .non := .dat (by simp only [Rep])

/-! ### + -/
def oAdd : PyData → PyData → (Slot → Prop) → Prop
  | .int i, .int j, q => q (.dat (.int (i + j)))
  | .str a, .str b, q => a.length + b.length ≤ 1000000 ∧ q (.dat (.str (a ++ b)))
  | .list a, .list b, q => a.length + b.length ≤ 100000 ∧ q (.own (a ++ b))
  | .tuple a, .tuple b, q => (a ≠ [] ∧ b ≠ [] ∧ a.length + b.length ≤ 100000) ∧ q (.dat (.tuple (a ++ b)))
  | _, _, _ => False
def rAddA (K : PySem.W.Frag) : R2 := fun x y H Q => rI0 (fun i j => .int (i + j)) x y H Q ∨ (∃ i j, x = .str i ∧ y = .str j ∧ i.length + j.length ≤ sizeLine ∧ Q (.str (i ++ j)) H) ∨ rCat x y H Q ∨ rCatT K x y H Q
theorem op_addA {X : Cx} : OpR X (binaryOp .Add) (rAddA X.K) := op_add.or (op_add_str.or (op_cat.or op_catT))
theorem sz6 {n : Nat} (h : n ≤ 1000000) : n ≤ sizeLine := Nat.le_trans h (by decide)
theorem Reps.ne {ds : List PyData} {vs : List V} (h : Reps K F ds vs) (q : ds ≠ []) : vs ≠ [] := by
  rintro rfl
  have := h.length
  cases ds with
  | nil => exact q rfl
  | cons _ _ => simp at this
theorem od_add : OpD K (rAddA K) oAdd := by
  intro F H x y dx dy q QQ e hx hy o k
  cases dx <;> cases dy <;> first | exact False.elim o | skip
  · rw [vw_int hx, vw_int hy]; exact .inl ⟨_, _, rfl, rfl, k _ _ _ o out_int⟩
  · rw [vw_str hx, vw_str hy]; exact .inr (.inl ⟨_, _, rfl, rfl, sz6 o.1, k _ _ _ o.2 out_str⟩)
  · obtain ⟨a, vs, rfl, h2, h3⟩ := hx
    obtain ⟨b, us, rfl, g2, g3⟩ := hy
    exact .inr (.inr (.inl ⟨a, b, vs, us, rfl, rfl, h2, g2, by rw [h3.length, g3.length]; exact sz_of o.1, fun p hp => k _ _ _ o.2 (.lst hp (h3.append g3))⟩))
  · obtain ⟨a, vs, rfl, h2, h3⟩ := hx
    obtain ⟨b, us, rfl, g2, g3⟩ := hy
    exact .inr (.inr (.inr ⟨a, b, vs, us, rfl, rfl, SqT.of h2, SqT.of g2, h3.ne o.1.1, by rw [h3.length, g3.length]; exact sz_of o.1.2.2, fun z => absurd z (g3.ne o.1.2.1), fun _ p hp => k _ _ _ o.2 (.tup hp (h3.append g3))⟩))

/-! ### -, %, //, **, * -/
def oSub : PyData → PyData → (Slot → Prop) → Prop
  | .int i, .int j, q => q (.dat (.int (i - j)))
  | _, _, _ => False
theorem od_sub : OpD K (rI0 fun i j => .int (i - j)) oSub := by
  intro F H x y dx dy q QQ e hx hy o k
  cases dx <;> cases dy <;> first | exact False.elim o | skip
  rw [vw_int hx, vw_int hy]; exact ⟨_, _, rfl, rfl, k _ _ _ o out_int⟩
def oI (C : Int → Int → Prop) (g : Int → Int → Int) : PyData → PyData → (Slot → Prop) → Prop
  | .int i, .int j, q => C i j ∧ q (.dat (.int (g i j)))
  | _, _, _ => False
theorem od_I {C : Int → Int → Prop} {g : Int → Int → Int} : OpD K (rI C fun i j => .int (g i j)) (oI C g) := by
  intro F H x y dx dy q QQ e hx hy o k
  cases dx <;> cases dy <;> first | exact False.elim o | skip
  rw [vw_int hx, vw_int hy]; exact ⟨_, _, rfl, rfl, o.1, k _ _ _ o.2 out_int⟩
abbrev oMod := oI (fun _ j => j ≠ 0) fun i j => i.fmod j
abbrev oFdiv := oI CDivW fun i j => i / j
abbrev oPow := oI CPow fun i j => i ^ j.toNat
def repStr (x : Str) (n : Nat) : Str := ⟨(List.replicate n x.cps.toList).flatten.toArray⟩
def rMulS : R2 := fun x y H Q => ∃ z n, x = .str z ∧ y = .int n ∧ 0 ≤ n ∧ n ≤ 100000 ∧ z.length * n.toNat ≤ 1000000 ∧ Q (.str (repStr z n.toNat)) H
def oMul : PyData → PyData → (Slot → Prop) → Prop
  | .int i, .int j, q => CMulW i j ∧ q (.dat (.int (i * j)))
  | .str z, .int n, q => (0 ≤ n ∧ n ≤ 100000 ∧ z.length * n.toNat ≤ 1000000) ∧ q (.dat (.str (repStr z n.toNat)))
  | _, _, _ => False
def rMulA : R2 := fun x y H Q => rI CMulW (fun i j => .int (i * j)) x y H Q ∨ rMulS x y H Q
theorem foldl_arr : ∀ (k : Nat) (a acc : Array Nat), (List.replicate k a).foldl (· ++ ·) acc = (acc.toList ++ (List.replicate k a.toList).flatten).toArray
  | 0, a, acc => by simp
  | k + 1, a, acc => by
    rw [List.replicate_succ, List.foldl_cons, foldl_arr k a (acc ++ a), List.replicate_succ, List.flatten_cons, Array.toList_append, List.append_assoc]
theorem op_mulS {X : Cx} : OpR X (binaryOp .Mult) rMulS := by
  intro pins s σ H x y v u Q I rx ry h
  obtain ⟨z, n, rfl, rfl, h0, h1, hz, q⟩ := h
  obtain ⟨t, rfl⟩ := rx
  obtain ⟨t', rfl⟩ := ry
  have hz' : z.length * n.toNat ≤ 16777216 := Nat.le_trans hz (by decide)
  refine PySem.P.mul_str ?_ (fun hn _ => ?_) (fun _ _ => ?_) ?_
  · have e1 : decide (n < -(2 ^ 63 : Int)) = false := decide_eq_false (by omega)
    have e2 : decide (n ≥ 2 ^ 63) = false := decide_eq_false (by omega)
    rw [e1, e2]; rfl
  · intro hc
    have h3 : (z.length : Int) * n ≤ 2 ^ 63 - 1 := by
      have e1 : ((z.length * n.toNat : Nat) : Int) = (z.length : Int) * n := by
        rw [Int.natCast_mul, Int.toNat_of_nonneg h0]
      rw [← e1]
      omega
    have h4 := Int.le_ediv_of_mul_le (by omega : 0 < n) h3
    omega
  · unfold Builtin.Str.tooLong
    exact decide_eq_false (by show ¬ _ > sizeLine; rw [sizeLine_eq]; omega)
  · have out : ∀ (tk : Nat), EP X pins σ Q (.str (repStr z n.toNat) tk) s := fun tk => ⟨.str _, H, I, ⟨_, rfl⟩, q⟩
    by_cases c1 : n < 1
    · rw [if_pos c1]
      have e : repStr z n.toNat = Str.empty := by
        have : n.toNat = 0 := by omega
        rw [this]; rfl
      refine ⟨by decide, .str (repStr z n.toNat), H, I.tok _, ⟨_, by rw [e]⟩, q⟩
    · rw [if_neg c1]
      by_cases c2 : (n == 1 || z.length == 0) = true
      · rw [if_pos c2]
        have e : repStr z n.toNat = z := by
          rw [Bool.or_eq_true, beq_iff_eq, beq_iff_eq] at c2
          rcases c2 with c2 | c2
          · subst c2
            unfold repStr
            simp
          · have hc : z.cps = #[] := Array.eq_empty_of_size_eq_zero c2
            obtain ⟨c⟩ := z
            simp only at hc
            subst hc
            unfold repStr
            simp
        exact ⟨.str (repStr z n.toNat), H, I, ⟨_, by rw [e]⟩, q⟩
      · rw [if_neg c2]
        have e : repStr z n.toNat = ⟨(List.replicate n.toNat z.cps).foldl (· ++ ·) #[]⟩ := by
          rw [foldl_arr]
          unfold repStr
          simp
        refine ⟨?_, .str (repStr z n.toNat), H, I.tok _, ⟨_, by rw [e]⟩, q⟩
        rw [← e]
        show (repStr z n.toNat).cps.size ≤ sizeLine
        have : (repStr z n.toNat).cps.size = n.toNat * z.length := by
          unfold repStr
          simp [Str.length]
        rw [this, Nat.mul_comm]
        exact sz6 hz
theorem op_mulA {X : Cx} : OpR X (binaryOp .Mult) rMulA := op_mulW.or op_mulS
theorem od_mul : OpD K rMulA oMul := by
  intro F H x y dx dy q QQ e hx hy o k
  cases dx <;> cases dy <;> first | exact False.elim o | skip
  · rw [vw_int hx, vw_int hy]; exact .inl ⟨_, _, rfl, rfl, o.1, k _ _ _ o.2 out_int⟩
  · rw [vw_str hx, vw_int hy]; exact .inr ⟨_, _, rfl, rfl, o.1.1, o.1.2.1, o.1.2.2, k _ _ _ o.2 out_str⟩

/-! ### ==, != -/
mutual
theorem Rep.dp : ∀ (d : PyData) (v : V), d.canLay0 = true → Rep K H d v → Dp K H v d
  | .none, v, _, h => by simp only [Rep] at h; subst h; exact .non
  | .bool b, v, _, h => by simp only [Rep] at h; subst h; exact .bl b
  | .int b, v, _, h => by simp only [Rep] at h; subst h; exact .int b
  | .str b, v, _, h => by simp only [Rep] at h; subst h; exact .str b
  | .list ds, v, c, h => by
    simp only [Rep] at h
    obtain ⟨a, vs, rfl, h2, h3⟩ := h
    exact .lst (SqL.of h2) (Reps.dp ds vs (by simpa only [PyData.canLay0] using c) h3)
  | .tuple ds, v, c, h => by
    simp only [Rep] at h
    obtain ⟨a, vs, rfl, h2, h3⟩ := h
    exact .tup (SqT.of h2) (Reps.dp ds vs (by simpa only [PyData.canLay0] using c) h3)
  | .dict _, _, c, _ => by simp [PyData.canLay0] at c
theorem Reps.dp : ∀ (ds : List PyData) (vs : List V), PyData.canLayAll0 ds = true → Reps K H ds vs → DpAll K H vs ds
  | [], vs, _, h => by simp only [Reps] at h; subst h; exact .nil
  | d :: ds, vs, c, h => by
    simp only [Reps] at h
    obtain ⟨v, r, rfl, h1, h2⟩ := h
    simp only [PyData.canLayAll0, Bool.and_eq_true] at c
    exact .cons (Rep.dp d v c.1 h1) (Reps.dp ds r c.2 h2)
end
theorem Vw.dp {d : PyData} (e : Same F H) (c : SeqAt.shaped d = true) (h : Vw K F H d x) : Dp K H x d := Rep.dp d x (SeqAt.canLay_of_shaped c) (h.rep e)
/-- plain values that are compared at once -/
def scalD : PyData → PyData → Bool
  | .none, .none => true
  | .none, .int _ => true
  | .int _, .none => true
  | .none, .bool _ => true
  | .bool _, .none => true
  | .none, .str _ => true
  | .str _, .none => true
  | .int _, .int _ => true
  | .bool _, .bool _ => true
  | .str _, .str _ => true
  | .int _, .str _ => true
  | .str _, .int _ => true
  | .bool _, .str _ => true
  | .str _, .bool _ => true
  | _, _ => false
theorem scal_of {d e : PyData} (hx : Vw K F H d x) (hy : Vw K F H e y) (h : scalD d e = true) : scal x y = true ∧ decide (x = y) = PyData.eqv d e := by
  cases d <;> cases e <;> first | cases h | skip
  all_goals first
    | (rw [vw_non hx, vw_non hy]; exact ⟨rfl, by simp [PyData.eqv]⟩)
    | (rw [vw_non hx, vw_int hy]; exact ⟨rfl, by simp [PyData.eqv]⟩)
    | (rw [vw_int hx, vw_non hy]; exact ⟨rfl, by simp [PyData.eqv]⟩)
    | (rw [vw_non hx, vw_bl hy]; exact ⟨rfl, by simp [PyData.eqv]⟩)
    | (rw [vw_bl hx, vw_non hy]; exact ⟨rfl, by simp [PyData.eqv]⟩)
    | (rw [vw_non hx, vw_str hy]; exact ⟨rfl, by simp [PyData.eqv]⟩)
    | (rw [vw_str hx, vw_non hy]; exact ⟨rfl, by simp [PyData.eqv]⟩)
    | (rw [vw_int hx, vw_int hy]; exact ⟨rfl, by rw [dec_int]; simp only [PyData.eqv]⟩)
    | (rw [vw_bl hx, vw_bl hy]; exact ⟨rfl, by rw [dec_bl]; simp only [PyData.eqv]⟩)
    | (rw [vw_str hx, vw_str hy]; exact ⟨rfl, by rw [dec_str]; simp only [PyData.eqv]⟩)
    | (rw [vw_int hx, vw_str hy]; exact ⟨rfl, by simp [PyData.eqv]⟩)
    | (rw [vw_str hx, vw_int hy]; exact ⟨rfl, by simp [PyData.eqv]⟩)
    | (rw [vw_bl hx, vw_str hy]; exact ⟨rfl, by simp [PyData.eqv]⟩)
    | (rw [vw_str hx, vw_bl hy]; exact ⟨rfl, by simp [PyData.eqv]⟩)
def cmpOk (d e : PyData) : Bool := scalD d e || (SeqAt.shaped d && SeqAt.shaped e)
def oEq (d e : PyData) (q : Slot → Prop) : Prop := cmpOk d e = true ∧ q (.dat (.bool (PyData.eqv d e)))
def oNe (d e : PyData) (q : Slot → Prop) : Prop := cmpOk d e = true ∧ q (.dat (.bool (!PyData.eqv d e)))
def rEqA (K : PySem.W.Frag) : R2 := fun x y H Q => rEq x y H Q ∨ rEqD K x y H Q
def rNeA (K : PySem.W.Frag) : R2 := fun x y H Q => rNe x y H Q ∨ rNeD K x y H Q
theorem op_eqA {X : Cx} (hu : X.A.units + 64 < cLine) : OpR X (compareOp .Eq) (rEqA X.K) := op_eq.or (op_eqD hu)
theorem op_neA {X : Cx} (hu : X.A.units + 64 < cLine) : OpR X (compareOp .NotEq) (rNeA X.K) := op_ne.or (op_neD hu)
theorem od_eq : OpD K (rEqA K) oEq := fun F H x y dx dy q QQ e hx hy o k => by
  obtain ⟨h, o⟩ := o
  rcases Bool.or_eq_true_iff.mp h with h | h
  · obtain ⟨h1, h2⟩ := scal_of hx hy h
    exact .inl ⟨h1, by rw [h2]; exact k _ _ _ o out_bl⟩
  · obtain ⟨h1, h2⟩ := Bool.and_eq_true_iff.mp h
    exact .inr ⟨dx, dy, hx.dp e h1, hy.dp e h2, h1, h2, k _ _ _ o out_bl⟩
theorem od_ne : OpD K (rNeA K) oNe := fun F H x y dx dy q QQ e hx hy o k => by
  obtain ⟨h, o⟩ := o
  rcases Bool.or_eq_true_iff.mp h with h | h
  · obtain ⟨h1, h2⟩ := scal_of hx hy h
    exact .inl ⟨h1, by rw [h2]; exact k _ _ _ o out_bl⟩
  · obtain ⟨h1, h2⟩ := Bool.and_eq_true_iff.mp h
    exact .inr ⟨dx, dy, hx.dp e h1, hy.dp e h2, h1, h2, k _ _ _ o out_bl⟩

/-! ### <, <=, >, >= -/
def intsD : List PyData → Option (List Int)
  | [] => some []
  | .int i :: r => (intsD r).map (i :: ·)
  | _ :: _ => none
theorem intsD_map : ∀ {ds : List PyData} {ns : List Int}, intsD ds = some ns → ds = ns.map .int
  | [], _, h => by cases h; rfl
  | .int i :: r, ns, h => by
    simp only [intsD] at h
    cases z : intsD r with
    | none => rw [z] at h; cases h
    | some ms => rw [z] at h; cases h; rw [List.map_cons, intsD_map z]
  | .none :: _, _, h => by cases h
  | .bool _ :: _, _, h => by cases h
  | .str _ :: _, _, h => by cases h
  | .list _ :: _, _, h => by cases h
  | .tuple _ :: _, _, h => by cases h
  | .dict _ :: _, _, h => by cases h
def withI (o : Option (List Int)) (k : List Int → Prop) : Prop := match o with
  | some d => k d
  | none => False
theorem withI.out {o : Option (List Int)} {k : List Int → Prop} (h : withI o k) : ∃ d, o = some d ∧ k d := by
  cases o with
  | none => exact h.elim
  | some d => exact ⟨d, rfl, h⟩
def leTB (ns ms : List Int) : Bool := Ob.lexAt (fun j => decide (ns.getD j 0 = ms.getD j 0)) (fun j => decide (ns.getD j 0 ≤ ms.getD j 0)) (decide (ns.length ≤ ms.length)) 0 (min ns.length ms.length)
def oLt : PyData → PyData → (Slot → Prop) → Prop
  | .int i, .int j, q => q (.dat (.bool (decide (i < j))))
  | .tuple a, .tuple b, q => withI (intsD a) fun ns => withI (intsD b) fun ms => q (.dat (.bool (HT.lexLt ns ms)))
  | _, _, _ => False
def oLe : PyData → PyData → (Slot → Prop) → Prop
  | .int i, .int j, q => q (.dat (.bool (decide (i ≤ j))))
  | .tuple a, .tuple b, q => withI (intsD a) fun ns => withI (intsD b) fun ms => q (.dat (.bool (leTB ns ms)))
  | _, _, _ => False
def rLtA (K : PySem.W.Frag) : R2 := fun x y H Q => rI0 (fun i j => .bl (decide (i < j))) x y H Q ∨ rLtT K x y H Q
def rLeA (K : PySem.W.Frag) : R2 := fun x y H Q => rI0 (fun i j => .bl (decide (i ≤ j))) x y H Q ∨ rLeT K x y H Q
theorem op_ltA {X : Cx} (hu : X.A.units < cLine) : OpR X (compareOp .Lt) (rLtA X.K) := op_lt.or (op_ltT hu)
theorem op_leA {X : Cx} (hu : X.A.units < cLine) : OpR X (compareOp .LtE) (rLeA X.K) := op_le.or (op_leT hu)
theorem od_lt : OpD K (rLtA K) oLt := by
  intro F H x y dx dy q QQ e hx hy o k
  cases dx <;> cases dy <;> first | exact False.elim o | skip
  · rw [vw_int hx, vw_int hy]; exact .inl ⟨_, _, rfl, rfl, k _ _ _ o out_bl⟩
  · obtain ⟨ns, e1, o⟩ := o.out
    obtain ⟨ms, e2, o⟩ := o.out
    obtain ⟨a, vs, rfl, h2, h3⟩ := hx
    obtain ⟨b, us, rfl, g2, g3⟩ := hy
    rw [intsD_map e1] at h3
    rw [intsD_map e2] at g3
    rw [h3.ints] at h2
    rw [g3.ints] at g2
    exact .inr ⟨a, b, ns, ms, rfl, rfl, SqT.of h2, SqT.of g2, k _ _ _ o out_bl⟩
theorem od_le : OpD K (rLeA K) oLe := by
  intro F H x y dx dy q QQ e hx hy o k
  cases dx <;> cases dy <;> first | exact False.elim o | skip
  · rw [vw_int hx, vw_int hy]; exact .inl ⟨_, _, rfl, rfl, k _ _ _ o out_bl⟩
  · obtain ⟨ns, e1, o⟩ := o.out
    obtain ⟨ms, e2, o⟩ := o.out
    obtain ⟨a, vs, rfl, h2, h3⟩ := hx
    obtain ⟨b, us, rfl, g2, g3⟩ := hy
    rw [intsD_map e1] at h3
    rw [intsD_map e2] at g3
    rw [h3.ints] at h2
    rw [g3.ints] at g2
    exact .inr ⟨a, b, ns, ms, rfl, rfl, SqT.of h2, SqT.of g2, k _ _ _ o out_bl⟩
def oGt : PyData → PyData → (Slot → Prop) → Prop
  | .int i, .int j, q => q (.dat (.bool (decide (j < i))))
  | _, _, _ => False
def oGe : PyData → PyData → (Slot → Prop) → Prop
  | .int i, .int j, q => q (.dat (.bool (decide (j ≤ i))))
  | _, _, _ => False
theorem od_gt : OpD K (rI0 fun i j => .bl (decide (j < i))) oGt := by
  intro F H x y dx dy q QQ e hx hy o k
  cases dx <;> cases dy <;> first | exact False.elim o | skip
  rw [vw_int hx, vw_int hy]; exact ⟨_, _, rfl, rfl, k _ _ _ o out_bl⟩
theorem od_ge : OpD K (rI0 fun i j => .bl (decide (j ≤ i))) oGe := by
  intro F H x y dx dy q QQ e hx hy o k
  cases dx <;> cases dy <;> first | exact False.elim o | skip
  rw [vw_int hx, vw_int hy]; exact ⟨_, _, rfl, rfl, k _ _ _ o out_bl⟩

/-! ### is None, is not None -/
def isNone : PyData → Bool
  | .none => true
  | _ => false
def oIs : PyData → PyData → (Slot → Prop) → Prop
  | d, .none, q => q (.dat (.bool (isNone d)))
  | _, _, _ => False
def oIsNot : PyData → PyData → (Slot → Prop) → Prop
  | d, .none, q => q (.dat (.bool (!isNone d)))
  | _, _, _ => False
theorem vw_isNone {d : PyData} (h : Vw K F H d x) : decide (x = .non) = isNone d := by
  cases d with
  | none => rw [vw_non h]; rfl
  | bool _ => rw [vw_bl h]; rfl
  | int _ => rw [vw_int h]; rfl
  | str _ => rw [vw_str h]; rfl
  | list _ => obtain ⟨a, vs, rfl, _⟩ := h; rfl
  | tuple _ => obtain ⟨a, vs, rfl, _⟩ := h; rfl
  | dict _ => obtain ⟨a, rfl, _⟩ := h; rfl
theorem od_is : OpD K (fun x y H Q => y = .non ∧ Q (.bl (decide (x = .non))) H) oIs := by
  intro F H x y dx dy q QQ e hx hy o k
  cases dy with
  | none => refine ⟨vw_non hy, ?_⟩; rw [vw_isNone hx]; exact k _ _ _ (by cases dx <;> exact o) out_bl
  | _ => cases dx <;> exact False.elim o
theorem od_isNot : OpD K (fun x y H Q => y = .non ∧ Q (.bl (!decide (x = .non))) H) oIsNot := by
  intro F H x y dx dy q QQ e hx hy o k
  cases dy with
  | none => refine ⟨vw_non hy, ?_⟩; rw [vw_isNone hx]; exact k _ _ _ (by cases dx <;> exact o) out_bl
  | _ => cases dx <;> exact False.elim o

/-! ### in, not in -/
theorem eqV_eqv {dx dy : PyData} (hx : Vw K F H dx x) (hy : Vw K F H dy y) (fx : flatV x = true) (fy : flatV y = true) : eqV x y = PyData.eqv dx dy := by
  have ref : ∀ (a : Addr), flatV (.ref a) = false := fun _ => rfl
  cases dx with
  | list _ => obtain ⟨a, _, rfl, _⟩ := hx; rw [ref] at fx; cases fx
  | tuple _ => obtain ⟨a, _, rfl, _⟩ := hx; rw [ref] at fx; cases fx
  | dict _ => obtain ⟨a, rfl, _⟩ := hx; rw [ref] at fx; cases fx
  | none =>
    rw [vw_non hx]
    cases dy with
    | list _ => obtain ⟨a, _, rfl, _⟩ := hy; rw [ref] at fy; cases fy
    | tuple _ => obtain ⟨a, _, rfl, _⟩ := hy; rw [ref] at fy; cases fy
    | dict _ => obtain ⟨a, rfl, _⟩ := hy; rw [ref] at fy; cases fy
    | none => rw [vw_non hy]; simp only [eqV, PyData.eqv]
    | bool _ => rw [vw_bl hy]; simp only [eqV, PyData.eqv]
    | int _ => rw [vw_int hy]; simp only [eqV, PyData.eqv]
    | str _ => rw [vw_str hy]; simp only [eqV, PyData.eqv]
  | bool _ =>
    rw [vw_bl hx]
    cases dy with
    | list _ => obtain ⟨a, _, rfl, _⟩ := hy; rw [ref] at fy; cases fy
    | tuple _ => obtain ⟨a, _, rfl, _⟩ := hy; rw [ref] at fy; cases fy
    | dict _ => obtain ⟨a, rfl, _⟩ := hy; rw [ref] at fy; cases fy
    | none => rw [vw_non hy]; simp only [eqV, PyData.eqv]
    | bool _ => rw [vw_bl hy]; simp only [eqV, PyData.eqv]
    | int _ => rw [vw_int hy]; simp only [eqV, PyData.eqv]
    | str _ => rw [vw_str hy]; simp only [eqV, PyData.eqv]
  | int _ =>
    rw [vw_int hx]
    cases dy with
    | list _ => obtain ⟨a, _, rfl, _⟩ := hy; rw [ref] at fy; cases fy
    | tuple _ => obtain ⟨a, _, rfl, _⟩ := hy; rw [ref] at fy; cases fy
    | dict _ => obtain ⟨a, rfl, _⟩ := hy; rw [ref] at fy; cases fy
    | none => rw [vw_non hy]; simp only [eqV, PyData.eqv]
    | bool _ => rw [vw_bl hy]; simp only [eqV, PyData.eqv]
    | int _ => rw [vw_int hy]; simp only [eqV, PyData.eqv]
    | str _ => rw [vw_str hy]; simp only [eqV, PyData.eqv]
  | str _ =>
    rw [vw_str hx]
    cases dy with
    | list _ => obtain ⟨a, _, rfl, _⟩ := hy; rw [ref] at fy; cases fy
    | tuple _ => obtain ⟨a, _, rfl, _⟩ := hy; rw [ref] at fy; cases fy
    | dict _ => obtain ⟨a, rfl, _⟩ := hy; rw [ref] at fy; cases fy
    | none => rw [vw_non hy]; simp only [eqV, PyData.eqv]
    | bool _ => rw [vw_bl hy]; simp only [eqV, PyData.eqv]
    | int _ => rw [vw_int hy]; simp only [eqV, PyData.eqv]
    | str _ => rw [vw_str hy]; simp only [eqV, PyData.eqv]
end
end DL

-- part DOps2
set_option Elab.async false
set_option maxRecDepth 100000
set_option maxHeartbeats 400000
namespace DL
open PySem L2

section
variable {K : PySem.W.Frag} {F H : Hp} {x y : V}
/-! ### in, not in -/
def flatD : PyData → Bool
  | .none => true
  | .bool _ => true
  | .int _ => true
  | .str _ => true
  | _ => false
theorem flat_of {d : PyData} (h : Vw K F H d x) (f : flatD d = true) : flatV x = true := by
  cases d with
  | none => rw [vw_non h]; rfl
  | bool _ => rw [vw_bl h]; rfl
  | int _ => rw [vw_int h]; rfl
  | str _ => rw [vw_str h]; rfl
  | _ => cases f
theorem flatR_of {d : PyData} (h : Rep K F d x) (f : flatD d = true) : flatV x = true := flat_of (Vw.of (Same.refl F) h) f
theorem flats_of : ∀ {ds : List PyData} {vs : List V}, Reps K F ds vs → ds.all flatD = true → vs.all flatV = true
  | [], vs, h, _ => by simp only [Reps] at h; subst h; rfl
  | d :: ds, vs, h, f => by
    obtain ⟨v, r, rfl, h1, h2⟩ := h.split
    rw [List.all_cons, Bool.and_eq_true] at f ⊢
    exact ⟨flatR_of h1 f.1, flats_of h2 f.2⟩
theorem inV_any {d : PyData} (hx : Vw K F H d x) (f : flatD d = true) : ∀ {ds : List PyData} {vs : List V}, Reps K F ds vs → ds.all flatD = true → inV x vs = ds.any fun e => PyData.eqv e d
  | [], vs, h, _ => by simp only [Reps] at h; subst h; rfl
  | e :: ds, vs, h, g => by
    obtain ⟨v, r, rfl, h1, h2⟩ := h.split
    rw [List.all_cons, Bool.and_eq_true] at g
    have ih := inV_any hx f h2 g.2
    unfold inV at ih ⊢
    rw [List.any_cons, List.any_cons, ih]
    have hx' : Vw K F F d x := by
      cases d <;> first | exact hx | cases f
    rw [eqV_eqv (Vw.of (Same.refl F) h1) hx' (flatR_of h1 g.1) (flat_of hx f)]
def oIn : PyData → PyData → (Slot → Prop) → Prop
  | .str a, .str z, q => ∃ c, a = ⟨#[c]⟩ ∧ q (.dat (.bool (decide (c ∈ z.cps.toList))))
  | d, .list ds, q => (flatD d = true ∧ ds.all flatD = true) ∧ q (.dat (.bool (ds.any fun e => PyData.eqv e d)))
  | d, .tuple ds, q => (flatD d = true ∧ ds.all flatD = true) ∧ q (.dat (.bool (ds.any fun e => PyData.eqv e d)))
  | _, _, _ => False
def oNotIn : PyData → PyData → (Slot → Prop) → Prop
  | .str a, .str z, q => ∃ c, a = ⟨#[c]⟩ ∧ q (.dat (.bool (!decide (c ∈ z.cps.toList))))
  | d, .list ds, q => (flatD d = true ∧ ds.all flatD = true) ∧ q (.dat (.bool (!ds.any fun e => PyData.eqv e d)))
  | d, .tuple ds, q => (flatD d = true ∧ ds.all flatD = true) ∧ q (.dat (.bool (!ds.any fun e => PyData.eqv e d)))
  | _, _, _ => False
def rInA (K : PySem.W.Frag) : R2 := fun x y H Q => (∃ (c : Nat) (z : Str), x = .str ⟨#[c]⟩ ∧ y = .str z ∧ Q (.bl (decide (c ∈ z.cps.toList))) H) ∨ rIn K false x y H Q
def rNotInA (K : PySem.W.Frag) : R2 := fun x y H Q => (∃ (c : Nat) (z : Str), x = .str ⟨#[c]⟩ ∧ y = .str z ∧ Q (.bl (!decide (c ∈ z.cps.toList))) H) ∨ rIn K true x y H Q
theorem op_inA {X : Cx} : OpR X (compareOp .In) (rInA X.K) := op_in_sign.or op_in_seq
theorem op_notInA {X : Cx} : OpR X (compareOp .NotIn) (rNotInA X.K) := op_notIn_sign.or op_notIn_seq
theorem oIn_split {dx dy : PyData} {q : Slot → Prop} (o : oIn dx dy q) : (∃ a z c, dx = .str a ∧ dy = .str z ∧ a = ⟨#[c]⟩ ∧ q (.dat (.bool (decide (c ∈ z.cps.toList))))) ∨
    ∃ ds, (dy = .list ds ∨ dy = .tuple ds) ∧ flatD dx = true ∧ ds.all flatD = true ∧ q (.dat (.bool (ds.any fun e => PyData.eqv e dx))) := by
  cases dy with
  | str z =>
    cases dx with
    | str a => obtain ⟨c, e, o⟩ := o; exact .inl ⟨a, z, c, rfl, rfl, e, o⟩
    | _ => exact False.elim o
  | list ds => cases dx <;> exact .inr ⟨ds, .inl rfl, o.1.1, o.1.2, o.2⟩
  | tuple ds => cases dx <;> exact .inr ⟨ds, .inr rfl, o.1.1, o.1.2, o.2⟩
  | _ => cases dx <;> exact False.elim o
theorem oNotIn_split {dx dy : PyData} {q : Slot → Prop} (o : oNotIn dx dy q) : (∃ a z c, dx = .str a ∧ dy = .str z ∧ a = ⟨#[c]⟩ ∧ q (.dat (.bool (!decide (c ∈ z.cps.toList))))) ∨
    ∃ ds, (dy = .list ds ∨ dy = .tuple ds) ∧ flatD dx = true ∧ ds.all flatD = true ∧ q (.dat (.bool (!ds.any fun e => PyData.eqv e dx))) := by
  cases dy with
  | str z =>
    cases dx with
    | str a => obtain ⟨c, e, o⟩ := o; exact .inl ⟨a, z, c, rfl, rfl, e, o⟩
    | _ => exact False.elim o
  | list ds => cases dx <;> exact .inr ⟨ds, .inl rfl, o.1.1, o.1.2, o.2⟩
  | tuple ds => cases dx <;> exact .inr ⟨ds, .inr rfl, o.1.1, o.1.2, o.2⟩
  | _ => cases dx <;> exact False.elim o
theorem vw_seq {dy : PyData} {ds : List PyData} (hy : Vw K F H dy y) (e : dy = .list ds ∨ dy = .tuple ds) : ∃ p vs, y = .ref p ∧ (SqL K H p vs ∨ SqT K H p vs) ∧ Reps K F ds vs := by
  rcases e with rfl | rfl
  · obtain ⟨a, vs, rfl, h2, h3⟩ := hy; exact ⟨a, vs, rfl, .inl (SqL.of h2), h3⟩
  · obtain ⟨a, vs, rfl, h2, h3⟩ := hy; exact ⟨a, vs, rfl, .inr (SqT.of h2), h3⟩
theorem od_in : OpD K (rInA K) oIn := by
  intro F H x y dx dy q QQ e hx hy o k
  rcases oIn_split o with ⟨a, z, c, rfl, rfl, rfl, oo⟩ | ⟨ds, e1, f1, f2, oo⟩
  · rw [vw_str hx, vw_str hy]; exact .inl ⟨c, z, rfl, rfl, k _ _ _ oo out_bl⟩
  · obtain ⟨p, vs, rfl, h2, h3⟩ := vw_seq hy e1
    refine .inr ⟨p, vs, rfl, h2, flat_of hx f1, flats_of h3 f2, ?_⟩
    rw [if_neg Bool.false_ne_true, inV_any hx f1 h3 f2]
    exact k _ _ _ oo out_bl
theorem od_notIn : OpD K (rNotInA K) oNotIn := by
  intro F H x y dx dy q QQ e hx hy o k
  rcases oNotIn_split o with ⟨a, z, c, rfl, rfl, rfl, oo⟩ | ⟨ds, e1, f1, f2, oo⟩
  · rw [vw_str hx, vw_str hy]; exact .inl ⟨c, z, rfl, rfl, k _ _ _ oo out_bl⟩
  · obtain ⟨p, vs, rfl, h2, h3⟩ := vw_seq hy e1
    refine .inr ⟨p, vs, rfl, h2, flat_of hx f1, flats_of h3 f2, ?_⟩
    rw [if_pos rfl, inV_any hx f1 h3 f2]
    exact k _ _ _ oo out_bl

/-! ### a[i] of a list, a tuple, a text -/
def atD {α : Type} (xs : List α) (i : Int) (k : α → Prop) : Prop := match atI xs i with
  | some v => k v
  | none => False
theorem atD.out {α : Type} {xs : List α} {i : Int} {k : α → Prop} (h : atD xs i k) : ∃ v, atI xs i = some v ∧ k v := by
  unfold atD at h
  cases e : atI xs i with
  | none => rw [e] at h; exact h.elim
  | some v => rw [e] at h; exact ⟨v, rfl, h⟩
def oIx : PyData → PyData → (Slot → Prop) → Prop
  | .list ds, .int i, q => atD ds i fun d => q (.dat d)
  | .tuple ds, .int i, q => atD ds i fun d => q (.dat d)
  | .str z, .int i, q => z.length ≤ 1000000 ∧ atD z.cps.toList i fun c => q (.dat (.str ⟨#[c]⟩))
  | _, _, _ => False
theorem Reps.atI {ds : List PyData} {vs : List V} {i : Int} {d : PyData} (h : Reps K F ds vs) (e : atI ds i = some d) : ∃ v, L2.atI vs i = some v ∧ Rep K F d v := by
  unfold L2.atI at e ⊢
  rw [h.length]
  cases z : ixN ds.length i with
  | none => rw [z] at e; cases e
  | some j => rw [z] at e; exact h.get e
theorem od_ix : OpD K (rIx K) oIx := by
  intro F H x y dx dy q QQ e hx hy o k
  cases dx <;> cases dy <;> first | exact False.elim o | skip
  · obtain ⟨hz, o⟩ := o
    obtain ⟨c, e1, o⟩ := o.out
    rw [vw_str hx, vw_int hy]
    exact .inr (.inr ⟨_, _, c, rfl, rfl, sz6 hz, e1, k _ _ _ o out_str⟩)
  · obtain ⟨d, e1, o⟩ := o.out
    obtain ⟨a, vs, rfl, h2, h3⟩ := hx
    obtain ⟨v, e2, r⟩ := h3.atI e1
    rw [vw_int hy]
    exact .inl ⟨a, vs, _, v, rfl, rfl, SqL.of h2, e2, k _ _ _ o (.dat r)⟩
  · obtain ⟨d, e1, o⟩ := o.out
    obtain ⟨a, vs, rfl, h2, h3⟩ := hx
    obtain ⟨v, e2, r⟩ := h3.atI e1
    rw [vw_int hy]
    exact .inr (.inl ⟨a, vs, _, v, rfl, rfl, SqT.of h2, e2, k _ _ _ o (.dat r)⟩)
end
section
variable {X : Cx} {W : WX} {xc : XC} {a b c e : Expr} {es : List Expr} {ua ub uc : TE} {ut uu : TT} {ul : TA} {ta tb tc : DTE} {tt tu tw : DTT} {tl : DTA} {pos p2 : Pos} {K : PySem.W.Frag}
theorem de_ix (ha : DE X W xc a ua ta) (hb : DE X W xc b ub tb) (hs : PlainIx b := by intro _ _; rfl) : DE X W xc (.Subscript a b pos) (tOp (rIx X.K) ua ub) (dBin oIx ta tb) := ⟨pe_ix ix_seq ha.p hb.p hs, sim_bin od_ix ha.s hb.s⟩

/-! ### slices -/
abbrev DTO := List Slot → (Option Int → List Slot → Prop) → Prop
def SimO (K : PySem.W.Frag) (W : WX) (xc : XC) (te : TO) (t : DTO) : Prop := ∀ (G : Fr) (ρ : List Slot) (F : Hp) (σ : L2.St) (H : Hp) (Q : Option Int → List Slot → Prop) (QQ : Option Int → Hp → Prop), G.K = K → XOk W xc G → StOk G ρ F σ H → t ρ Q →
  (∀ (b : Option Int) (ρ' : List Slot) (F' H' : Hp), Q b ρ' → StOk G ρ' F' σ H' → Step G ρ F σ H ρ' F' H' → QQ b H') → te σ H QQ
structure DO (X : Cx) (W : WX) (xc : XC) (e : Option Expr) (te : TO) (t : DTO) : Prop where
  p : PO X e te
  s : SimO X.K W xc te t
def dNoPart : DTO := fun ρ Q => Q none ρ
def dPart (t : DTE) : DTO := fun ρ Q => t ρ fun r ρ' => withD (look ρ' r) fun d => match d with
  | .int i => Q (some i) ρ'
  | _ => False
theorem do_none : DO X W xc none tNoPart dNoPart := ⟨po_none, fun G ρ F σ H Q QQ hK hx I q k => k none ρ F H q I Step.refl⟩
theorem do_some (h : DE X W xc e ua ta) : DO X W xc (some e) (tPart ua) (dPart ta) := by
  refine ⟨po_some h.p, fun G ρ F σ H Q QQ hK hx I q k => ?_⟩
  refine h.s G ρ F σ H _ _ hK hx I q fun v r ρ1 F1 H1 q I1 R1 e1 f1 => ?_
  obtain ⟨d, l, q⟩ := q.out
  have z := I1.vw R1.1 l
  cases d with
  | int b => exact ⟨b, vw_int z, k (some b) ρ1 F1 H1 q I1 e1⟩
  | none => exact q.elim
  | bool _ => exact q.elim
  | str _ => exact q.elim
  | list _ => exact q.elim
  | tuple _ => exact q.elim
  | dict _ => exact q.elim
def cutD (xs : List PyData) (lo hi : Option Int) : List PyData := (xs.drop (HT.sIx xs.length 0 lo)).take (HT.sIx xs.length xs.length hi - HT.sIx xs.length 0 lo)
theorem Reps.cut {F : Hp} {ds : List PyData} {vs : List V} {lo hi : Option Int} (h : Reps K F ds vs) : Reps K F (cutD ds lo hi) (cutV vs lo hi) := by
  unfold cutD cutV
  rw [h.length]
  exact (h.drop _).take _
/-- a slice of data -/
def oSl (d : PyData) (lo hi : Option Int) (q : Slot → Prop) : Prop := match d with
  | .str z => z.length ≤ 1000000 ∧ q (.dat (.str (cutS z lo hi)))
  | .list ds => q (.own (cutD ds lo hi))
  | _ => False
def rSlA (K : PySem.W.Frag) : V → Option Int → Option Int → Hp → VK → Prop := fun x lo hi H Q => rSlL K x lo hi H Q ∨ rSlS x lo hi H Q
theorem sl_A : SlR X (rSlA X.K) := sl_list.or sl_str
def dSl (ta : DTE) (tl th : DTO) : DTE := fun ρ Q => ta ρ fun r1 ρ1 => tl ρ1 fun lo ρ2 => th ρ2 fun hi ρ3 => withD (look ρ3 (frS r1)) fun d => oSl d lo hi fun r => Q r ρ3
theorem sim_sl {ul uh : TO} {tl th : DTO} (ha : SimE K W xc ua ta) (hl : SimO K W xc ul tl) (hh : SimO K W xc uh th) : SimE K W xc (tSl (rSlA K) ua ul uh) (dSl ta tl th) := by
  intro G ρ F σ H Q QQ hK hx I h k
  refine ha G ρ F σ H _ _ hK hx I h fun x r1 ρ1 F1 H1 h I1 R1 e1 f1 => ?_
  obtain ⟨F1', I1', e1', _, S1, o1⟩ := I1.heldP R1 e1 f1
  refine hl G ρ1 F1' σ H1 _ _ hK hx I1' h fun lo ρ2 F2 H2 h I2 e2 => ?_
  refine hh G ρ2 F2 σ H2 _ _ hK hx I2 h fun hi ρ3 F3 H3 h I3 e3 => ?_
  obtain ⟨d1, l1, h⟩ := h.out
  subst hK
  have z := I3.vw (S1.later o1 (e2.f.trans e3.f)) l1
  have fin : ∀ {v r' H'}, Q r' ρ3 → Out G.K F3 H3 H' r' v → QQ v H' := fun {v r' H'} q o => by
    obtain ⟨F4, I4, e4, R4, f4⟩ := o.ok I3
    exact k v r' ρ3 F4 H' q I4 R4 (((e1'.trans e2).trans e3).trans e4) (f4.back ((e1'.trans e2).trans e3))
  cases d1 with
  | str x => rw [vw_str z]; exact .inr ⟨_, rfl, sz6 h.1, fin h.2 out_str⟩
  | list ds =>
    obtain ⟨a, vs, rfl, h2, h3⟩ := z
    exact .inl ⟨a, vs, rfl, SqL.of h2, fun p hp => fin h (.lst hp h3.cut)⟩
  | none => exact h.elim
  | bool _ => exact h.elim
  | int _ => exact h.elim
  | tuple _ => exact h.elim
  | dict _ => exact h.elim
theorem de_sl {lo hi : Option Expr} {ul uh : TO} {tl th : DTO} (ha : DE X W xc a ua ta) (hl : DO X W xc lo ul tl) (hh : DO X W xc hi uh th) : DE X W xc (.Subscript a (.Slice lo hi none p2) pos) (tSl (rSlA X.K) ua ul uh) (dSl ta tl th) := ⟨pe_slice sl_A ha.p hl.p hh.p, sim_sl ha.s hl.s hh.s⟩

/-! ### -x -/
def dNeg (ta : DTE) : DTE := fun ρ Q => ta ρ fun r ρ1 => withD (look ρ1 r) fun d => match d with
  | .int i => Q (.dat (.int (-i))) ρ1
  | _ => False
theorem de_neg (h : DE X W xc a ua ta) : DE X W xc (.UnaryOp .USub a pos) (tUn (rU fun i => .int (-i)) ua) (dNeg ta) := by
  refine ⟨pe_un un_neg h.p, fun G ρ F σ H Q QQ hK hx I q k => ?_⟩
  refine h.s G ρ F σ H _ _ hK hx I q fun v r ρ1 F1 H1 q I1 R1 e1 f1 => ?_
  obtain ⟨d, l, q⟩ := q.out
  have z := I1.vw R1.1 l
  cases d with
  | int b => exact ⟨b, vw_int z, k _ _ ρ1 F1 H1 q I1 ⟨by show Rep _ _ _ _; simp only [Rep], fun z => by cases z⟩ e1 (Fresh.no rfl)⟩
  | none => exact q.elim
  | bool _ => exact q.elim
  | str _ => exact q.elim
  | list _ => exact q.elim
  | tuple _ => exact q.elim
  | dict _ => exact q.elim

/-! ### a <= b <= c -/
def dChain (o o' : PyData → PyData → (Slot → Prop) → Prop) (ta tb tc : DTE) : DTE := fun ρ Q => ta ρ fun r1 ρ1 => tb ρ1 fun r2 ρ2 => withD (look ρ2 (frS r1)) fun d1 => withD (look ρ2 (frS r2)) fun d2 => o d1 d2 fun r => match r with
  | .dat (.bool b) => if b = true then tc ρ2 fun r3 ρ3 => withD (look ρ3 (frS r2)) fun d2 => withD (look ρ3 r3) fun d3 => o' d2 d3 fun r => Q r ρ3 else Q (.dat (.bool false)) ρ2
  | _ => False
theorem sim_chain {r r' : R2} {o o' : PyData → PyData → (Slot → Prop) → Prop} (ho : OpD K r o) (ho' : OpD K r' o') (ha : SimE K W xc ua ta) (hb : SimE K W xc ub tb) (hc : SimE K W xc uc tc) : SimE K W xc (tChain r r' ua ub uc) (dChain o o' ta tb tc) := by
  intro G ρ F σ H Q QQ hK hx I h k
  refine ha G ρ F σ H _ _ hK hx I h fun x r1 ρ1 F1 H1 h I1 R1 e1 f1 => ?_
  obtain ⟨F1', I1', e1', _, S1, o1⟩ := I1.heldP R1 e1 f1
  refine hb G ρ1 F1' σ H1 _ _ hK hx I1' h fun y r2 ρ2 F2 H2 h I2 R2 e2 f2 => ?_
  obtain ⟨F2', I2', e2', n2, S2, o2⟩ := I2.heldP R2 e2 f2
  obtain ⟨d1, l1, h⟩ := h.out
  obtain ⟨d2, l2, h⟩ := h.out
  subst hK
  have z1 : SlotOk G F2' H2 σ (frS r1) x := S1.later o1 e2'.f
  refine ho F2' H2 x y d1 d2 _ _ I2'.ex (I2'.vw z1 l1) (I2'.vw S2 l2) h fun v r' H' q o => ?_
  obtain ⟨F5, I5, e5, R5, f5⟩ := o.ok I2'
  have stop : ∀ {P : Prop}, (match r' with | .dat (.bool _) => False | _ => True) → P := fun {P} z => by
    cases r' with
    | dat d' => cases d' <;> first | exact False.elim q | exact False.elim z
    | _ => exact False.elim q
  cases r' with
  | dat d' =>
    cases d' with
    | bool b =>
      have hd := R5.1
      refine ⟨b, (show v = .bl b by simpa only [SlotOk, Rep] using hd), ?_⟩
      dsimp only at q
      cases b with
      | false => exact k _ _ ρ2 F5 H' q I5 ⟨by show Rep _ _ _ _; simp only [Rep], fun z => by cases z⟩ ((e1'.trans e2').trans e5) (Fresh.no rfl)
      | true =>
        rw [if_pos rfl] at q ⊢
        refine hc G ρ2 F5 σ H' _ _ rfl hx I5 q fun w r3 ρ3 F3 H3 h I3 R3 e3 f3 => ?_
        obtain ⟨d2, l2, h⟩ := h.out
        obtain ⟨d3, l3, h⟩ := h.out
        refine ho' F3 H3 y w d2 d3 _ _ I3.ex (I3.vw (S2.later o2 (e5.f.trans e3.f)) l2) (I3.vw R3.1 l3) h fun v r' H' q o => ?_
        obtain ⟨F4, I4, e4, R4, f4⟩ := o.ok I3
        exact k v r' ρ3 F4 H' q I4 R4 ((((e1'.trans e2').trans e5).trans e3).trans e4) (f4.back (((e1'.trans e2').trans e5).trans e3))
    | _ => exact stop trivial
  | _ => exact stop trivial
theorem de_chain {op op' : CmpOp} {r r' : R2} {o o' : PyData → PyData → (Slot → Prop) → Prop} (hr : OpR X (compareOp op) r) (hr' : OpR X (compareOp op') r') (ho : OpD X.K r o) (ho' : OpD X.K r' o') (ha : DE X W xc a ua ta) (hb : DE X W xc b ub tb) (hc : DE X W xc c uc tc)
    (hm : lastMarks [op, op'] [b, c] = false := by with_unfolding_all rfl) : DE X W xc (.Compare a [op, op'] [b, c] pos) (tChain r r' ua ub uc) (dChain o o' ta tb tc) := ⟨pe_chain hr hr' ha.p hb.p hc.p hm, sim_chain ho ho' ha.s hb.s hc.s⟩
theorem dc_chain {op op' : CmpOp} {r r' : R2} {o o' : PyData → PyData → (Slot → Prop) → Prop} (hr : OpR X (compareOp op) r) (hr' : OpR X (compareOp op') r') (ho : OpD X.K r o) (ho' : OpD X.K r' o') (ha : DE X W xc a ua ta) (hb : DE X W xc b ub tb) (hc : DE X W xc c uc tc)
    (hm : lastMarks [op, op'] [b, c] = false := by with_unfolding_all rfl) : DC X W xc (.Compare a [op, op'] [b, c] pos) (tTest (tChain r r' ua ub uc)) (dTest (dChain o o' ta tb tc)) := ⟨pt_chain hr hr' ha.p hb.p hc.p hm, sim_test (sim_chain ho ho' ha.s hb.s hc.s)⟩
end
end DL

-- part DOps3
set_option Elab.async false
set_option maxRecDepth 100000
set_option maxHeartbeats 400000
namespace DL
open PySem L2

/-! ### calls of built-ins -/
section
variable {K : PySem.W.Frag} {F H : Hp} {x y : V} {xs : List V}
theorem vws1 {d : PyData} (h : Vws K F H [d] xs) : ∃ v, xs = [v] ∧ Vw K F H d v := by
  obtain ⟨v, ws, rfl, h1, h2⟩ := h
  have h2 : ws = [] := h2
  subst h2
  exact ⟨v, rfl, h1⟩
theorem vws2 {d e : PyData} (h : Vws K F H [d, e] xs) : ∃ v w, xs = [v, w] ∧ Vw K F H d v ∧ Vw K F H e w := by
  obtain ⟨v, ws, rfl, h1, h2⟩ := h
  obtain ⟨w, rfl, h3⟩ := vws1 h2
  exact ⟨v, w, rfl, h1, h3⟩
def oLen : List PyData → (Slot → Prop) → Prop
  | [.str z], q => z.length ≤ 1000000 ∧ q (.dat (.int (z.length : Nat)))
  | [.list ds], q => q (.dat (.int (ds.length : Nat)))
  | [.tuple ds], q => q (.dat (.int (ds.length : Nat)))
  | _, _ => False
def rLenA (K : PySem.W.Frag) : List V → Hp → VK → Prop := fun xs H Q => ∃ x n, xs = [x] ∧ LenV K x H n ∧ Q (.int n) H
theorem cd_len : CallD K (rLenA K) oLen := by
  intro F H xs ds q QQ e hx o k
  match ds, o, hx with
  | [.str z], o, hx => obtain ⟨v, rfl, h⟩ := vws1 hx; rw [vw_str h]; exact ⟨_, _, rfl, ⟨sz6 o.1, rfl⟩, k _ _ _ o.2 out_int⟩
  | [.list ds], o, hx => obtain ⟨v, rfl, a, vs, rfl, h2, h3⟩ := vws1 hx; exact ⟨_, _, rfl, .inl ⟨vs, SqL.of h2, rfl⟩, by rw [h3.length]; exact k _ _ _ o out_int⟩
  | [.tuple ds], o, hx => obtain ⟨v, rfl, a, vs, rfl, h2, h3⟩ := vws1 hx; exact ⟨_, _, rfl, .inr ⟨vs, SqT.of h2, rfl⟩, by rw [h3.length]; exact k _ _ _ o out_int⟩
def oInt : List PyData → (Slot → Prop) → Prop
  | [.int i], q => q (.dat (.int i))
  | [.str z], q => z.length ≤ 640 ∧ ∃ n, PySem.intText? z = some n ∧ q (.dat (.int n))
  | _, _ => False
def rIntA : List V → Hp → VK → Prop := fun xs H Q => ((∃ i, xs = [.int i] ∧ Q (.int i) H) ∨ ∃ k, xs = [.bl k] ∧ Q (.int (if k then 1 else 0)) H) ∨ ∃ a n, xs = [.str a] ∧ PySem.intText? a = some n ∧ a.length ≤ 640 ∧ Q (.int n) H
theorem cr_or {X : Cx} {f : Value} {r r' : List V → Hp → VK → Prop} (h : CallR X f r) (h' : CallR X f r') : CallR X f (fun xs H Q => r xs H Q ∨ r' xs H Q) := by
  intro pins s σ H xs us Q I rs q
  rcases q with q | q
  · exact h pins s σ H xs us Q I rs q
  · exact h' pins s σ H xs us Q I rs q
theorem cr_int {X : Cx} : CallR X (.type "int") rIntA := cr_or call_int1 call_int_str
theorem cd_int : CallD K rIntA oInt := by
  intro F H xs ds q QQ e hx o k
  match ds, o, hx with
  | [.int z], o, hx => obtain ⟨v, rfl, h⟩ := vws1 hx; rw [vw_int h]; exact .inl (.inl ⟨_, rfl, k _ _ _ o out_int⟩)
  | [.str z], ⟨h1, n, h2, o⟩, hx => obtain ⟨v, rfl, h⟩ := vws1 hx; rw [vw_str h]; exact .inr ⟨_, _, rfl, h2, h1, k _ _ _ o out_int⟩
def oStr : List PyData → (Slot → Prop) → Prop
  | [.int i], q => i.natAbs.log2 < 1920 ∧ q (.dat (.str (toString i : String)))
  | _, _ => False
theorem cd_str : CallD K (fun xs H Q => ∃ i, xs = [.int i] ∧ i.natAbs.log2 < 1920 ∧ Q (.str (toString i)) H) oStr := by
  intro F H xs ds q QQ e hx o k
  match ds, o, hx with
  | [.int z], o, hx => obtain ⟨v, rfl, h⟩ := vws1 hx; rw [vw_int h]; exact ⟨_, rfl, o.1, k _ _ _ o.2 out_str⟩
def oAbs : List PyData → (Slot → Prop) → Prop
  | [.int i], q => q (.dat (.int (if i < 0 then -i else i)))
  | _, _ => False
theorem cd_abs : CallD K (fun xs H Q => ∃ i, xs = [.int i] ∧ Q (.int (if i < 0 then -i else i)) H) oAbs := by
  intro F H xs ds q QQ e hx o k
  match ds, o, hx with
  | [.int z], o, hx => obtain ⟨v, rfl, h⟩ := vws1 hx; rw [vw_int h]; exact ⟨_, rfl, k _ _ _ o out_int⟩
def bools : List PyData → Option (List Bool)
  | [] => some []
  | .bool i :: r => (bools r).map (i :: ·)
  | _ :: _ => none
theorem bools_vs : ∀ {ds : List PyData} {bs : List Bool} {vs : List V}, bools ds = some bs → Reps K F ds vs → vs = bs.map V.bl
  | [], _, _, h, r => by cases h; simpa only [Reps, List.map_nil] using r
  | .bool i :: t, ns, vs, h, r => by
    simp only [bools] at h
    obtain ⟨v, ws, rfl, h1, h2⟩ := r.split
    cases z : bools t with
    | none => rw [z] at h; cases h
    | some ms =>
      rw [z] at h; cases h
      simp only [Rep] at h1
      rw [h1, bools_vs z h2]; rfl
  | .none :: _, _, _, h, _ => by cases h
  | .int _ :: _, _, _, h, _ => by cases h
  | .str _ :: _, _, _, h, _ => by cases h
  | .list _ :: _, _, _, h, _ => by cases h
  | .tuple _ :: _, _, _, h, _ => by cases h
  | .dict _ :: _, _, _, h, _ => by cases h
def withBs (o : Option (List Bool)) (k : List Bool → Prop) : Prop := match o with
  | some d => k d
  | none => False
theorem withBs.out {o : Option (List Bool)} {k : List Bool → Prop} (h : withBs o k) : ∃ d, o = some d ∧ k d := by
  cases o with
  | none => exact h.elim
  | some d => exact ⟨d, rfl, h⟩
def oAll : List PyData → (Slot → Prop) → Prop
  | [.list ds], q => withBs (bools ds) fun bs => q (.dat (.bool (bs.all id)))
  | _, _ => False
def oAny : List PyData → (Slot → Prop) → Prop
  | [.list ds], q => withBs (bools ds) fun bs => q (.dat (.bool (bs.any id)))
  | _, _ => False
theorem cd_all : CallD K (rAll K) oAll := by
  intro F H xs ds q QQ e hx o k
  match ds, o, hx with
  | [.list ds], o, hx =>
    obtain ⟨v, rfl, a, vs, rfl, h2, h3⟩ := vws1 hx
    obtain ⟨bs, z, o⟩ := withBs.out o
    rw [bools_vs z h3] at h2
    exact ⟨a, bs, rfl, SqL.of h2, k _ _ _ o out_bl⟩
theorem cd_any : CallD K (rAny K) oAny := by
  intro F H xs ds q QQ e hx o k
  match ds, o, hx with
  | [.list ds], o, hx =>
    obtain ⟨v, rfl, a, vs, rfl, h2, h3⟩ := vws1 hx
    obtain ⟨bs, z, o⟩ := withBs.out o
    rw [bools_vs z h3] at h2
    exact ⟨a, bs, rfl, SqL.of h2, k _ _ _ o out_bl⟩
end

/-! ### isinstance(x, T), T a built-in type -/
def isA (T t : String) : Bool := t == T || (t == "bool" && T == "int")
theorem kitB_isA : ∀ T ∈ ["int", "str", "bool", "list", "tuple", "dict"], ∀ t ∈ ["NoneType", "bool", "int", "str", "list", "tuple"], kitB t T = some (isA T t) := by decide +kernel
section
variable {X : Cx} {W : WX} {xc : XC} {a b c e : Expr} {es : List Expr} {ua ub uc ue : TE} {ut uu : TT} {ul : TA} {ta tb tc te : DTE} {tt tu tw : DTT} {tl : DTA} {pos p p2 : Pos} {K : PySem.W.Frag}
def noDict : PyData → Bool
  | .dict _ => false
  | _ => true
def dIsi (T : String) (ta : DTE) : DTE := fun ρ Q => ta ρ fun r ρ1 => withD (look ρ1 (frS r)) fun d => noDict d = true ∧ Q (.dat (.bool (isA T (tyD d)))) ρ1
theorem vw_ty {F H : Hp} {d : PyData} {v : V} (h : Vw K F H d v) (n : noDict d = true) : TyX K H v (.type (tyD d)) := by
  cases d with
  | none => rw [vw_non h]; exact .base .non
  | bool _ => rw [vw_bl h]; exact .base (.bl _)
  | int _ => rw [vw_int h]; exact .base (.int _)
  | str _ => rw [vw_str h]; exact .base (.str _)
  | list _ => obtain ⟨a, vs, rfl, h2, _⟩ := h; exact .base (.lst h2)
  | tuple _ => obtain ⟨a, vs, rfl, h2, _⟩ := h; exact .base (.tup h2)
  | dict _ => cases n
theorem tyD_mem {d : PyData} (n : noDict d = true) : tyD d ∈ ["NoneType", "bool", "int", "str", "list", "tuple"] := by cases d <;> first | exact List.mem_of_elem_eq_true rfl | cases n
theorem de_isi {T : String} {x : Str} (ha : DE X W xc a ua ta) (hm : X.mg "isinstance" = none) (hx : X.mg x = none) (hv : bootBuiltins x = some (.type T)) (hT : T ∈ ["int", "str", "bool", "list", "tuple", "dict"]) (hg : Gl X "isinstance" := by rfl) (hgx : Gl X x := by rfl)
    (hn : x ≠ "__name__" := by decide) (hd : (x == ("__debug__" : Str)) = false := by decide) (hs : starEach [a, .Name x p2] X.env = (false, eval a X.env) :: starEach [.Name x p2] X.env := by rfl) (hs2 : starEach [.Name x p2] X.env = (false, eval (.Name x p2) X.env) :: starEach [] X.env := by rfl)
    (hpl : (backTo pos (starEach [.Name x p2] X.env)).any (·.1) = false := by rfl) :
    DE X W xc (.Call (.Name "isinstance" p) [a, .Name x p2] [] pos) (tCB (rIsi X.K) (tCons ua (tCons (tC (.ty T)) tNil))) (dIsi T ta) := by
  refine ⟨pe_callB call_isi hg hm PyProof.Rows.boot_isinstance (pa_cons ha.p (pa_cons (pe_bltn hgx hx hv rfl hn hd) pa_nil hs2) hs) (by decide) (by decide) hs hpl, fun G ρ F σ H Q QQ hK hx I q k => ?_⟩
  refine ha.s G ρ F σ H _ _ hK hx I q fun v r ρ1 F1 H1 q I1 R1 e1 f1 => ?_
  obtain ⟨d, l, n, q⟩ := q.out
  obtain ⟨F2, I2, e2, _, S2, _⟩ := I1.heldP R1 e1 f1
  have z := I2.vw S2 l
  rw [hK] at z
  exact ⟨v, .ty T, _, .type T, isA T (tyD d), rfl, .ty T, vw_ty z n, kit_ty (kitB_isA T hT _ (tyD_mem n)), k _ _ ρ1 F2 H1 q I2 ⟨by show Rep _ _ _ _; simp only [Rep], fun z => by cases z⟩ e2 (Fresh.no rfl)⟩

/-! ### methods that change nothing -/
def dMt (T : String) (o : PyData → List PyData → (Slot → Prop) → Prop) (ta : DTE) (tl : DTA) : DTE := fun ρ Q => ta ρ fun r1 ρ1 => withD (look ρ1 (frS r1)) fun d0 => (tyD d0 = T ∧ (T = "str" ∨ T = "list")) ∧ tl ρ1 fun rs ρ2 => withD (look ρ2 (frS r1)) fun d => withL (looks ρ2 rs) fun ds => o d ds fun r => Q r ρ2
theorem vw_tyV {F H : Hp} {d : PyData} {v : V} {T : String} (h : Vw K F H d v) (e : tyD d = T) (n : T = "str" ∨ T = "list") : tyV K T v H := by
  subst e
  cases d with
  | str _ => rw [vw_str h]; rfl
  | list _ => obtain ⟨a, vs, rfl, h2, _⟩ := h; exact .inl ⟨rfl, vs, SqL.of h2⟩
  | none => rcases n with n | n <;> simp [tyD] at n
  | bool _ => rcases n with n | n <;> simp [tyD] at n
  | int _ => rcases n with n | n <;> simp [tyD] at n
  | tuple _ => rcases n with n | n <;> simp [tyD] at n
  | dict _ => rcases n with n | n <;> simp [tyD] at n
theorem sim_mt {T : String} {r : V → List V → Hp → VK → Prop} {o : PyData → List PyData → (Slot → Prop) → Prop} (ho : MtD K T r o) (ha : SimE K W xc ua ta) (hl : SimA K W xc ul tl) : SimE K W xc (tBM K T r ua ul) (dMt T o ta tl) := by
  intro G ρ F σ H Q QQ hK hx I h k
  refine ha G ρ F σ H _ _ hK hx I h fun x r1 ρ1 F1 H1 h I1 R1 e1 f1 => ?_
  obtain ⟨F1', I1', e1', _, S1, o1⟩ := I1.heldP R1 e1 f1
  obtain ⟨d0, l0, ⟨y1, y2⟩, h⟩ := h.out
  subst hK
  refine ⟨vw_tyV (I1'.vw S1 l0) y1 y2, ?_⟩
  refine hl G ρ1 F1' σ H1 _ _ rfl hx I1' h fun vs rs ρ2 F2 H2 h I2 A2 e2 => ?_
  obtain ⟨d, l, h⟩ := h.out
  obtain ⟨ds, ls, h⟩ := h.out
  refine ho F2 H2 x vs d ds _ _ I2.ex (I2.vw (S1.later o1 e2.f) l) (A2.vws I2 ls) h fun v r' H' q o => ?_
  obtain ⟨F3, I3, e3, R3, f3⟩ := o.ok I2
  exact k v r' ρ2 F3 H' q I3 R3 ((e1'.trans e2).trans e3) (f3.back (e1'.trans e2))
theorem de_mt {T id : String} {name : Str} {apos : Pos} {r : V → List V → Hp → VK → Prop} {o : PyData → List PyData → (Slot → Prop) → Prop} (pa : PlainAttrs T) (slot : PySem.Slot T name id) (hty : typeOf (.builtin id) = pure (.type "method_descriptor")) (hm : MtR X id r) (ho : MtD X.K T r o) (ha : DE X W xc a ua ta) (hl : DA X W xc (e :: es) ul tl)
    (hbase : attributeBase a name X.env (eval a X.env) = eval a X.env := by rfl)
    (hfew : ((backTo pos (starEach (e :: es) X.env)).all (fun x => !x.1) && (backToKw pos (keywordEach [] X.env)).all (fun x => x.1.isSome)
      && decide ((e :: es).length + ([] : List Keyword).length + (if ([] : List Keyword).isEmpty then 0 else 1) < 30)) = true := by rfl)
    (hline : (apos.endLine == pos.line) = true := by rfl) (hs : starEach (e :: es) X.env = (false, eval e X.env) :: starEach es X.env := by rfl) (hplain : (backTo pos (starEach es X.env)).any (·.1) = false := by rfl) :
    DE X W xc (.Call (.Attribute a name apos) (e :: es) [] pos) (tBM X.K T r ua ul) (dMt T o ta tl) := ⟨pe_bm pa slot hty hm ha.p hl.p hbase hfew hline hs hplain, sim_mt ho ha.s hl.s⟩
def strsD (xs : List Str) : List PyData := xs.map .str
def oSplit : PyData → List PyData → (Slot → Prop) → Prop
  | .str z, [.str s], q => ((s.length == 0) = false ∧ z.length ≤ 1000000) ∧ q (.own (strsD (Txt.split z s)))
  | _, _, _ => False
def rSplit : V → List V → Hp → VK → Prop := fun x xs H Q => ∃ a b, x = .str a ∧ xs = [.str b] ∧ (b.length == 0) = false ∧ a.length + 2 ≤ sizeLine ∧ rNewStrs (Txt.split a b) H Q
theorem md_split : MtD K "str" rSplit oSplit := by
  intro F H x xs dx ds q QQ e hx hxs o k
  match dx, ds, o, hx, hxs with
  | .str z, [.str s], o, hx, hxs =>
    obtain ⟨v, rfl, h⟩ := vws1 hxs
    rw [vw_str h, vw_str hx]
    exact ⟨z, s, rfl, rfl, o.1.1, Nat.le_trans (Nat.add_le_add_right o.1.2 2) (by decide), fun p hp => k _ _ _ o.2 (.lst hp (Reps.of_strs _))⟩
theorem de_split {apos : Pos} (ha : DE X W xc a ua ta) (hl : DA X W xc [e] ul tl) (hbase : attributeBase a "split" X.env (eval a X.env) = eval a X.env := by rfl)
    (hfew : ((backTo pos (starEach [e] X.env)).all (fun x => !x.1) && (backToKw pos (keywordEach [] X.env)).all (fun x => x.1.isSome)
      && decide (([e] : List Expr).length + ([] : List Keyword).length + (if ([] : List Keyword).isEmpty then 0 else 1) < 30)) = true := by rfl)
    (hline : (apos.endLine == pos.line) = true := by rfl) (hs : starEach [e] X.env = (false, eval e X.env) :: starEach [] X.env := by rfl) (hplain : (backTo pos (starEach [] X.env)).any (·.1) = false := by rfl) :
    DE X W xc (.Call (.Attribute a "split" apos) [e] [] pos) (tBM X.K "str" rSplit ua ul) (dMt "str" oSplit ta tl) := de_mt PySem.F.plainAttrs_str PySem.F.slot_str_split PySem.F.type_str_split mt_split md_split ha hl hbase hfew hline hs hplain
def texts : List PyData → Option (List Str)
  | [] => some []
  | .str i :: r => (texts r).map (i :: ·)
  | _ :: _ => none
theorem texts_vs {F : Hp} : ∀ {ds : List PyData} {bs : List Str} {vs : List V}, texts ds = some bs → Reps K F ds vs → vs = bs.map V.str
  | [], _, _, h, r => by cases h; simpa only [Reps, List.map_nil] using r
  | .str i :: t, ns, vs, h, r => by
    simp only [texts] at h
    obtain ⟨v, ws, rfl, h1, h2⟩ := r.split
    cases z : texts t with
    | none => rw [z] at h; cases h
    | some ms =>
      rw [z] at h; cases h
      simp only [Rep] at h1
      rw [h1, texts_vs z h2]; rfl
  | .none :: _, _, _, h, _ => by cases h
  | .int _ :: _, _, _, h, _ => by cases h
  | .bool _ :: _, _, _, h, _ => by cases h
  | .list _ :: _, _, _, h, _ => by cases h
  | .tuple _ :: _, _, _, h, _ => by cases h
  | .dict _ :: _, _, _, h, _ => by cases h
theorem texts_strsD : ∀ (xs : List Str), texts (strsD xs) = some xs
  | [] => rfl
  | x :: xs => by
    have ih := texts_strsD xs
    unfold strsD at ih ⊢
    rw [List.map_cons, texts, ih]; rfl
def withS (o : Option (List Str)) (k : List Str → Prop) : Prop := match o with
  | some d => k d
  | none => False
theorem withS.out {o : Option (List Str)} {k : List Str → Prop} (h : withS o k) : ∃ d, o = some d ∧ k d := by
  cases o with
  | none => exact h.elim
  | some d => exact ⟨d, rfl, h⟩
def oJoin : PyData → List PyData → (Slot → Prop) → Prop
  | .str z, [.list ds], q => withS (texts ds) fun ys => (ys.map (·.length)).sum + ys.length * z.length ≤ 1000000 ∧ q (.dat (.str (Txt.join z ys)))
  | _, _, _ => False
def rJoinA (K : PySem.W.Frag) : V → List V → Hp → VK → Prop := fun x xs H Q => ∃ a p, ∃ ys : List Str, x = .str a ∧ xs = [.ref p] ∧ (SqL K H p (ys.map V.str) ∨ SqT K H p (ys.map V.str)) ∧
    (ys.map (·.length)).sum + ys.length * a.length ≤ 16777216 ∧ Q (.str (Txt.join a ys)) H
theorem md_join : MtD K "str" (rJoinA K) oJoin := by
  intro F H x xs dx ds q QQ e hx hxs o k
  match dx, ds, o, hx, hxs with
  | .str z, [.list es], o, hx, hxs =>
    obtain ⟨v, rfl, a, vs, rfl, h2, h3⟩ := vws1 hxs
    obtain ⟨ys, e1, o1, o2⟩ := withS.out o
    rw [vw_str hx]
    rw [texts_vs e1 h3] at h2
    exact ⟨z, a, ys, rfl, rfl, .inl (SqL.of h2), Nat.le_trans o1 (by decide), k _ _ _ o2 out_str⟩
theorem de_join {apos : Pos} (ha : DE X W xc a ua ta) (hl : DA X W xc [e] ul tl) (hbase : attributeBase a "join" X.env (eval a X.env) = eval a X.env := by rfl)
    (hfew : ((backTo pos (starEach [e] X.env)).all (fun x => !x.1) && (backToKw pos (keywordEach [] X.env)).all (fun x => x.1.isSome)
      && decide (([e] : List Expr).length + ([] : List Keyword).length + (if ([] : List Keyword).isEmpty then 0 else 1) < 30)) = true := by rfl)
    (hline : (apos.endLine == pos.line) = true := by rfl) (hs : starEach [e] X.env = (false, eval e X.env) :: starEach [] X.env := by rfl) (hplain : (backTo pos (starEach [] X.env)).any (·.1) = false := by rfl) :
    DE X W xc (.Call (.Attribute a "join" apos) [e] [] pos) (tBM X.K "str" (rJoinA X.K) ua ul) (dMt "str" oJoin ta tl) := de_mt PySem.F.plainAttrs_str PySem.F.slot_str_join PySem.F.type_str_join mt_join md_join ha hl hbase hfew hline hs hplain

/-! ### f-strings of texts and ints -/
def dFmt (ta : DTE) : DTE := fun ρ Q => ta ρ fun r ρ1 => withD (look ρ1 r) fun d => match d with
  | .str z => z.length ≤ 1000000 ∧ Q (.dat (.str z)) ρ1
  | .int i => i.natAbs.log2 < 1920 ∧ Q (.dat (.str (toString i : String))) ρ1
  | _ => False
theorem de_fmt (ha : DE X W xc a ua ta) : DE X W xc (.FormattedValue a (-1) none pos) (tFmt ua) (dFmt ta) := by
  refine ⟨pe_fmt ha.p, fun G ρ F σ H Q QQ hK hx I q k => ?_⟩
  refine ha.s G ρ F σ H _ _ hK hx I q fun v r ρ1 F1 H1 q I1 R1 e1 f1 => ?_
  obtain ⟨d, l, q⟩ := q.out
  have z := I1.vw R1.1 l
  cases d with
  | int b => exact .inr ⟨b, vw_int z, q.1, k _ _ ρ1 F1 H1 q.2 I1 ⟨by show Rep _ _ _ _; simp only [Rep], fun z => by cases z⟩ e1 (Fresh.no rfl)⟩
  | str b => exact .inl ⟨b, vw_str z, sz6 q.1, k _ _ ρ1 F1 H1 q.2 I1 ⟨by show Rep _ _ _ _; simp only [Rep], fun z => by cases z⟩ e1 (Fresh.no rfl)⟩
  | none => exact q.elim
  | bool _ => exact q.elim
  | list _ => exact q.elim
  | tuple _ => exact q.elim
  | dict _ => exact q.elim
abbrev DTJ := Str → List Slot → (Str → List Slot → Prop) → Prop
structure DJs (X : Cx) (W : WX) (xc : XC) (es : List Expr) (ts : List TE) (t : DTJ) : Prop where
  p : PJ X es ts
  s : ∀ (G : Fr) (acc : Str) (ρ : List Slot) (F : Hp) (σ : L2.St) (H : Hp) (Q : Str → List Slot → Prop) (QQ : Str → Hp → Prop), G.K = X.K → XOk W xc G → StOk G ρ F σ H → t acc ρ Q →
    (∀ (b : Str) (ρ' : List Slot) (F' H' : Hp), Q b ρ' → StOk G ρ' F' σ H' → Step G ρ F σ H ρ' F' H' → QQ b H') → tJs ts acc σ H QQ
def dJNil : DTJ := fun acc ρ Q => Q acc ρ
def dJCons (ta : DTE) (tj : DTJ) : DTJ := fun acc ρ Q => ta ρ fun r ρ1 => withD (look ρ1 r) fun d => match d with
  | .str z => acc.length + z.length ≤ 1000000 ∧ tj (acc ++ z) ρ1 Q
  | _ => False
theorem dj_nil : DJs X W xc [] [] dJNil := ⟨.nil, fun G acc ρ F σ H Q QQ hK hx I q k => k acc ρ F H q I Step.refl⟩
theorem dj_cons {ts : List TE} {tj : DTJ} (ha : DE X W xc a ua ta) (h : DJs X W xc es ts tj) : DJs X W xc (a :: es) (ua :: ts) (dJCons ta tj) := by
  refine ⟨.cons ha.p h.p, fun G acc ρ F σ H Q QQ hK hx I q k => ?_⟩
  refine ha.s G ρ F σ H _ _ hK hx I q fun v r ρ1 F1 H1 q I1 R1 e1 f1 => ?_
  obtain ⟨d, l, q⟩ := q.out
  have z := I1.vw R1.1 l
  cases d with
  | str b =>
    refine ⟨b, vw_str z, ?_, h.s G _ ρ1 F1 σ H1 _ _ hK hx I1 q.2 fun b ρ2 F2 H2 q I2 e2 => k b ρ2 F2 H2 q I2 (e1.trans e2)⟩
    have : (acc ++ b).length = acc.length + b.length := by
      show (acc.cps ++ b.cps).size = _
      rw [Array.size_append]; rfl
    rw [this]; exact sz6 q.1
  | int b => exact q.elim
  | none => exact q.elim
  | bool _ => exact q.elim
  | list _ => exact q.elim
  | tuple _ => exact q.elim
  | dict _ => exact q.elim
def dJoined (tj : DTJ) : DTE := fun ρ Q => tj Str.empty ρ fun out ρ1 => Q (.dat (.str out)) ρ1
theorem de_joined {ts : List TE} {tj : DTJ} (h : DJs X W xc (a :: b :: es) ts tj) : DE X W xc (.JoinedStr (a :: b :: es) pos) (fun σ H Q => tJs ts Str.empty σ H fun out H1 => Q (.str out) H1) (dJoined tj) :=
  ⟨pe_joined h.p, fun G ρ F σ H Q QQ hK hx I q k => h.s G Str.empty ρ F σ H _ _ hK hx I q fun b ρ1 F1 H1 q I1 e1 => k _ _ ρ1 F1 H1 q I1 ⟨by show Rep _ _ _ _; simp only [Rep], fun z => by cases z⟩ e1 (Fresh.no rfl)⟩
end
end DL

-- part DPar
set_option Elab.async false
set_option maxRecDepth 100000
set_option maxHeartbeats 400000
namespace DL
open PySem L2

section
variable {G : Fr} {ρ ρ1 ρ2 : List Slot} {F F1 F2 H H1 H2 H' : Hp} {σ : L2.St} {r s : Slot} {v w : V} {i : Nat}
/-! ### results that stay owned while the walk goes on -/
theorem Res.step (I : StOk G ρ1 F1 σ H1) (J : StOk G ρ2 F2 σ H2) (R : Res G ρ1 F1 σ H1 r v) (e : Step G ρ1 F1 σ H1 ρ2 F2 H2) : Res G ρ2 F2 σ H2 r v := by
  refine ⟨?_, fun ho i s l h1 h2 h3 => ?_⟩
  · by_cases ho : r.isOwn = true
    · have hv : r.isVw = false := by cases r <;> first | rfl | cases ho
      obtain ⟨l0, o0, e0, f0, z0, h0⟩ := own_addr R.1 ho
      have kp : H2 l0 = some o0 := by
        refine e.k l0 o0 h0 (fun z => ?_) fun j s h1 h2 h3 => R.2 ho j s l0 h1 h2 h3 e0
        obtain ⟨_, o2, z2⟩ := I.bag l0 z
        rw [z0] at z2; cases z2
      refine R.1.move hv e.f (fun l o _ hl hh => ?_) fun l _ hl => ?_
      · rw [e0] at hl; cases hl
        rw [h0] at hh; cases hh
        exact kp
      · rw [e0] at hl; cases hl
        cases q : F2 l0 with
        | none => rfl
        | some o =>
          have y := J.ex _ _ q
          rw [kp] at y
          cases y
          rcases e.n l0 _ q with z | z | ⟨j, s, z1, z2, z3⟩ | z
          · rw [f0] at z; cases z
          · rw [h0] at z; cases z
          · exact absurd e0 (R.2 ho j s l0 z1 z2 z3)
          · rw [e0] at R
            exact absurd z (own_imm R.1 ho h0)
    · exact R.1.later (by simpa using ho) e.f
  · obtain ⟨s0, y1, y2⟩ := e.s i s h1 h2
    exact R.2 ho i s0 l y1 y2 h3
def OkL (G : Fr) (ρ : List Slot) (F : Hp) (σ : L2.St) (H : Hp) : List Slot → List V → Prop
  | [], vs => vs = []
  | r :: rs, vs => ∃ v ws, vs = v :: ws ∧ Res G ρ F σ H r v ∧ (r.isOwn = true → ∀ (j : Nat) (s : Slot) (w : V), rs[j]? = some s → ws[j]? = some w → s.isOwn = true → w ≠ v) ∧ OkL G ρ F σ H rs ws
def FreshL (H : Hp) : List Slot → List V → Prop
  | r :: rs, v :: vs => Fresh H r v ∧ FreshL H rs vs
  | _, _ => True
theorem OkL.len : ∀ {rs : List Slot} {vs : List V}, OkL G ρ F σ H rs vs → vs.length = rs.length
  | [], _, h => by have h : _ = [] := h; subst h; rfl
  | r :: rs, vs, ⟨v, ws, h1, _, _, h4⟩ => by subst h1; simp only [List.length_cons, OkL.len h4]
theorem FreshL.at : ∀ {rs : List Slot} {vs : List V} {j : Nat} {s : Slot} {w : V}, FreshL H rs vs → rs[j]? = some s → vs[j]? = some w → Fresh H s w
  | [], vs, j, s, w, _, h, _ => by simp at h
  | r :: rs, [], j, s, w, _, _, h => by simp at h
  | r :: rs, v :: vs, 0, s, w, h, h1, h2 => by simp at h1 h2; subst h1 h2; exact h.1
  | r :: rs, v :: vs, j + 1, s, w, h, h1, h2 => FreshL.at (j := j) h.2 (by simpa using h1) (by simpa using h2)
theorem FreshL.back {rs : List Slot} {vs : List V} (e : Step G ρ F σ H ρ1 F1 H1) (h : FreshL H1 rs vs) : FreshL H rs vs := by
  induction rs generalizing vs with
  | nil => trivial
  | cons r rs ih =>
    cases vs with
    | nil => trivial
    | cons v vs => exact ⟨h.1.back e, ih h.2⟩
abbrev DTB := List Slot → (List Slot → List Slot → Prop) → Prop
def SimB (K : PySem.W.Frag) (W : WX) (xc : XC) (te : TA) (t : DTB) : Prop := ∀ (G : Fr) (ρ : List Slot) (F : Hp) (σ : L2.St) (H : Hp) (Q : List Slot → List Slot → Prop) (QQ : List V → Hp → Prop), G.K = K → XOk W xc G → StOk G ρ F σ H → t ρ Q →
  (∀ (vs : List V) (rs : List Slot) (ρ' : List Slot) (F' H' : Hp), Q rs ρ' → StOk G ρ' F' σ H' → OkL G ρ' F' σ H' rs vs → FreshL H rs vs → Step G ρ F σ H ρ' F' H' → QQ vs H') → te σ H QQ
structure DB (X : Cx) (W : WX) (xc : XC) (es : List Expr) (te : TA) (t : DTB) : Prop where
  p : PA X es te
  s : SimB X.K W xc te t
def bNil : DTB := fun ρ Q => Q [] ρ
def bCons (ta : DTE) (tl : DTB) : DTB := fun ρ Q => ta ρ fun r ρ1 => tl ρ1 fun rs ρ2 => Q (r :: rs) ρ2
theorem sim_bnil {K : PySem.W.Frag} {W : WX} {xc : XC} : SimB K W xc tNil bNil := fun G ρ F σ H Q QQ hK hx I q k => k [] [] ρ F H q I rfl trivial Step.refl
theorem sim_bcons {K : PySem.W.Frag} {W : WX} {xc : XC} {ua : TE} {ul : TA} {ta : DTE} {tl : DTB} (ha : SimE K W xc ua ta) (hl : SimB K W xc ul tl) : SimB K W xc (tCons ua ul) (bCons ta tl) := by
  intro G ρ F σ H Q QQ hK hx I q k
  refine ha G ρ F σ H _ _ hK hx I q fun v r ρ1 F1 H1 q I1 R1 e1 f1 => ?_
  refine hl G ρ1 F1 σ H1 _ _ hK hx I1 q fun vs rs ρ2 F2 H2 q I2 A2 f2 e2 => ?_
  refine k (v :: vs) (r :: rs) ρ2 F2 H2 q I2 ⟨v, vs, rfl, R1.step I1 I2 e2, fun ho j s w h1 h2 h3 z => ?_, A2⟩ ⟨f1, f2.back e1⟩ (e1.trans e2)
  obtain ⟨l, o, e0, _, _, h0⟩ := own_addr R1.1 ho
  have := f2.at h1 h2 h3 l (z.trans e0)
  rw [h0] at this; cases this
/-- views are frozen -/
def vwF (ρ : List Slot) : Slot → Slot × List Slot
  | .vw j => frz ρ (.vw j)
  | r => (r, ρ)
def vwFL (ρ : List Slot) : List Slot → List Slot × List Slot
  | [] => ([], ρ)
  | r :: rs => let p := vwF ρ r; let q := vwFL p.2 rs; (p.1 :: q.1, q.2)
theorem vwF_not {r : Slot} (h : r.isVw = false) : vwF ρ r = (r, ρ) := by cases r <;> first | rfl | cases h
theorem frz_vw_step (I : StOk G ρ F σ H) (R : Res G ρ F σ H r v) (hv : r.isVw = true) : ∃ F', StOk G (frz ρ r).2 F' σ H ∧ Step G ρ F σ H (frz ρ r).2 F' H ∧ SlotOk G F' H σ (frz ρ r).1 v ∧ (frz ρ r).1.isOwn = false ∧ (frz ρ r).1.isVw = false := by
  obtain ⟨F', a, b, _, c, d, e⟩ := I.freezeP (H := H) (F := F) (ρ := ρ) R Step.refl (Fresh.no (by cases r <;> first | rfl | cases hv))
  exact ⟨F', a, b, c, d, e⟩
theorem StOk.vwFL (I : StOk G ρ F σ H) : ∀ {rs : List Slot} {vs : List V}, OkL G ρ F σ H rs vs → ∃ F', StOk G (DL.vwFL ρ rs).2 F' σ H ∧ Step G ρ F σ H (DL.vwFL ρ rs).2 F' H ∧ OkL G (DL.vwFL ρ rs).2 F' σ H (DL.vwFL ρ rs).1 vs ∧ (∀ s ∈ (DL.vwFL ρ rs).1, s.isVw = false) ∧
    ∀ (j : Nat) (s : Slot), (DL.vwFL ρ rs).1[j]? = some s → s.isOwn = true → rs[j]? = some s := by
  intro rs
  induction rs generalizing ρ F with
  | nil => exact fun h => ⟨F, I, Step.refl, h, (fun s hs => nomatch hs), fun j s h _ => h⟩
  | cons r rs ih =>
    rintro vs ⟨v, ws, rfl, R, hd, h⟩
    have key : ∃ F1, StOk G (vwF ρ r).2 F1 σ H ∧ Step G ρ F σ H (vwF ρ r).2 F1 H ∧ Res G (vwF ρ r).2 F1 σ H (vwF ρ r).1 v ∧ (vwF ρ r).1.isVw = false ∧ ((vwF ρ r).1.isOwn = true → r = (vwF ρ r).1) := by
      by_cases hv : r.isVw = true
      · obtain ⟨F1, a, b, c, d, e⟩ := frz_vw_step I R hv
        have : vwF ρ r = frz ρ r := by cases r <;> first | rfl | cases hv
        rw [this]
        exact ⟨F1, a, b, ⟨c, fun z => by rw [d] at z; cases z⟩, e, fun z => by rw [d] at z; cases z⟩
      · have hv : r.isVw = false := by simpa using hv
        rw [vwF_not hv]
        exact ⟨F, I, Step.refl, R, hv, fun _ => rfl⟩
    obtain ⟨F1, I1, e1, R1, n1, k1⟩ := key
    have h1 : OkL G (vwF ρ r).2 F1 σ H rs ws := by
      clear ih hd
      revert h
      induction rs generalizing ws with
      | nil => exact fun z => z
      | cons r' rs ih2 => rintro ⟨v', ws', rfl, R', hd', h'⟩; exact ⟨v', ws', rfl, R'.step I I1 e1, hd', ih2 ws' h'⟩
    obtain ⟨F2, I2, e2, h2, n2, k2⟩ := ih I1 h1
    refine ⟨F2, I2, e1.trans e2, ⟨v, ws, rfl, R1.step I1 I2 e2, fun ho j s w q1 q2 q3 => hd ((k1 ho).symm ▸ ho) j s w (k2 j s q1 q3) q2 q3, h2⟩, fun s hs => ?_, fun j s hj ho => ?_⟩
    · rcases List.mem_cons.mp hs with rfl | hs
      · exact n1
      · exact n2 s hs
    · cases j with
      | zero =>
        simp [DL.vwFL] at hj
        subst hj
        rw [List.getElem?_cons_zero, ← k1 ho]
      | succ j => exact k2 j s (by simpa [DL.vwFL] using hj) ho
/-- slots is get the results rs -/
def setL {α : Type} (ρ : List α) : List Nat → List α → List α
  | i :: is, r :: rs => setL (ρ.set i r) is rs
  | _, _ => ρ
theorem StOk.setL (I : StOk G ρ F σ H) : ∀ {is : List Nat} {rs : List Slot} {vs : List V}, OkL G ρ F σ H rs vs → (∀ s ∈ rs, s.isVw = false) → is.length = rs.length → StOk G (DL.setL ρ is rs) F (DL.setL σ is (vs.map some)) H := by
  intro is
  induction is generalizing ρ σ with
  | nil => intro rs vs _ _ hl; cases rs with
    | nil => cases vs <;> exact I
    | cons _ _ => simp at hl
  | cons i is ih =>
    intro rs vs h hv hl
    cases rs with
    | nil => simp at hl
    | cons r rs =>
      obtain ⟨v, ws, rfl, R, hd, h⟩ := h
      have nv := hv r List.mem_cons_self
      have I1 := I.set (i := i) R nv
      refine ih (ρ := ρ.set i r) (σ := σ.set i (some v)) I1 ?_ (fun s hs => hv s (List.mem_cons_of_mem _ hs)) (by simpa using hl)
      have hv' : ∀ s ∈ rs, s.isVw = false := fun s hs => hv s (List.mem_cons_of_mem _ hs)
      clear hl ih
      revert h hd hv'
      induction rs generalizing ws with
      | nil => exact fun _ z _ => z
      | cons r' rs ih2 =>
        rintro hd ⟨v', ws', rfl, R', hd', h'⟩ hv'
        refine ⟨v', ws', rfl, ⟨SlotOk.sig R'.1 (hv' r' List.mem_cons_self), fun ho j s l h1 h2 h3 => ?_⟩, hd', ih2 (fun s hs => ?_) ws' (fun ho j s w q1 q2 q3 => hd ho (j + 1) s w (by simpa using q1) (by simpa using q2) q3) h' fun s hs => hv' s (List.mem_cons_of_mem _ hs)⟩
        · rw [List.getElem?_set] at h1 h3
          by_cases e : i = j
          · rw [if_pos e] at h1 h3
            split at h1
            · cases h1
              split at h3
              · have e5 : v = .ref l := by cases h3; rfl
                rw [← e5]
                exact hd h2 0 r' v' rfl rfl ho
              · cases h3
            · cases h1
          · rw [if_neg e] at h1 h3
            exact R'.2 ho j s l h1 h2 h3
        · rcases List.mem_cons.mp hs with rfl | hs
          · exact nv
          · exact hv s (List.mem_cons_of_mem _ (List.mem_cons_of_mem _ hs))
end
section
variable {X : Cx} {W : WX} {xc : XC} {a b c e : Expr} {es : List Expr} {ua ub uc ue : TE} {ut uu : TT} {ul : TA} {ta tb tc te : DTE} {tt tu tw : DTT} {tl : DTB} {pos p p2 : Pos} {K : PySem.W.Frag}
theorem db_nil : DB X W xc [] tNil bNil := ⟨pa_nil, sim_bnil⟩
theorem db_cons (ha : DE X W xc a ua ta) (hl : DB X W xc es ul tl) (hs : starEach (a :: es) X.env = (false, eval a X.env) :: starEach es X.env := by rfl) : DB X W xc (a :: es) (tCons ua ul) (bCons ta tl) := ⟨pa_cons ha.p hl.p hs, sim_bcons ha.s hl.s⟩
/-- x, y, .. = a, b, .. (two or three different names) -/
def dParN (is : List Nat) (tl : DTB) : DTS := fun D ρ => tl ρ fun rs ρ1 => rs.length = is.length ∧ D.nx (setL (vwFL ρ1 rs).2 is (vwFL ρ1 rs).1)
theorem vwFL_len : ∀ {rs : List Slot} {ρ : List Slot}, (vwFL ρ rs).1.length = rs.length
  | [], _ => rfl
  | r :: rs, ρ => by simp only [vwFL, List.length_cons, vwFL_len]
theorem sim_par2 {i j : Nat} (h : SimB K W xc ul tl) : SimS K W xc (tPar i j ul) (dParN [i, j] tl) := by
  intro G ρ F σ H D DD hK hx I q k
  refine h G ρ F σ H _ _ hK hx I q fun vs rs ρ1 F1 H1 q I1 A1 f1 e1 => ?_
  obtain ⟨F2, I2, e2, A2, n2, _⟩ := I1.vwFL A1
  have hl : vs.length = 2 := A1.len.trans q.1
  match vs, hl, A2 with
  | [v, w], _, A2 => exact ⟨v, w, rfl, k.nx _ F2 _ H1 q.2 (I2.setL A2 n2 (by rw [vwFL_len]; exact q.1.symm)) (e1.f.trans e2.f)⟩
theorem sim_par3 {i j l : Nat} (h : SimB K W xc ul tl) : SimS K W xc (tPar3 i j l ul) (dParN [i, j, l] tl) := by
  intro G ρ F σ H D DD hK hx I q k
  refine h G ρ F σ H _ _ hK hx I q fun vs rs ρ1 F1 H1 q I1 A1 f1 e1 => ?_
  obtain ⟨F2, I2, e2, A2, n2, _⟩ := I1.vwFL A1
  have hl : vs.length = 3 := A1.len.trans q.1
  match vs, hl, A2 with
  | [u, v, w], _, A2 => exact ⟨u, v, w, rfl, k.nx _ F2 _ H1 q.2 (I2.setL A2 n2 (by rw [vwFL_len]; exact q.1.symm)) (e1.f.trans e2.f)⟩
theorem ds_par2 {i j : Nat} {x y : Str} {px py pt : Pos} {kt k2 pt2} (hc : X.calm = true) (hN : X.N.Nodup) (h : DB X W xc [a, b] ul tl)
    (hw : swappedStores [.Tuple [.Name x px, .Name y py] kt pt] (.Tuple [a, b] k2 pt2) X.env = pure (some [x, y])) (hi : X.N[i]? = some x := by rfl) (hj : X.N[j]? = some y := by rfl) (hij : i ≠ j := by decide)
    (hx : X.env.scope.names.lookup x = some .local := by rfl) (hy : X.env.scope.names.lookup y = some .local := by rfl) (hs : swapsWithSole [.Tuple [.Name x px, .Name y py] kt pt] (.Tuple [a, b] k2 pt2) pos.line X.env = pure false := by rfl) :
    DS X W xc (.Assign [.Tuple [.Name x px, .Name y py] kt pt] (.Tuple [a, b] k2 pt2) pos) (tPar i j ul) (dParN [i, j] tl) := ⟨ps_par hc hN hi hj hij hx hy h.p hw hs, sim_par2 h.s⟩
theorem ds_par3 {i j l : Nat} {x y z : Str} {px py pz pt : Pos} {kt k2 pt2} (hc : X.calm = true) (hN : X.N.Nodup) (h : DB X W xc [a, b, c] ul tl)
    (hw : swappedStores [.Tuple [.Name x px, .Name y py, .Name z pz] kt pt] (.Tuple [a, b, c] k2 pt2) X.env = pure (some [x, y, z])) (hi : X.N[i]? = some x := by rfl) (hj : X.N[j]? = some y := by rfl) (hl : X.N[l]? = some z := by rfl) (hij : i ≠ j := by decide) (hil : i ≠ l := by decide) (hjl : j ≠ l := by decide)
    (hx : X.env.scope.names.lookup x = some .local := by rfl) (hy : X.env.scope.names.lookup y = some .local := by rfl) (hz : X.env.scope.names.lookup z = some .local := by rfl) (hs : swapsWithSole [.Tuple [.Name x px, .Name y py, .Name z pz] kt pt] (.Tuple [a, b, c] k2 pt2) pos.line X.env = pure false := by rfl) :
    DS X W xc (.Assign [.Tuple [.Name x px, .Name y py, .Name z pz] kt pt] (.Tuple [a, b, c] k2 pt2) pos) (tPar3 i j l ul) (dParN [i, j, l] tl) := ⟨ps_par3 hc hN hi hj hl hij hil hjl hx hy hz h.p hw hs, sim_par3 h.s⟩
end
end DL

-- part DMut
set_option Elab.async false
set_option maxRecDepth 100000
set_option maxHeartbeats 400000
namespace DL
open PySem L2

section
variable {G : Fr} {ρ ρ1 ρ2 : List Slot} {F F1 F2 H H1 H2 H' : Hp} {σ : L2.St} {r s s' : Slot} {v w : V} {i : Nat}
/-- an owned slot's object is changed -/
theorem StOk.mut (I : StOk G ρ F σ H) {l : Addr} {o : HO} (h : ρ[i]? = some s) (ho : s.isOwn = true) (e : σ[i]? = some (some (.ref l))) (ho' : s'.isOwn = true) (S : SlotOk G F (upd H l o) σ s' (.ref l)) : StOk G (ρ.set i s') F σ (upd H l o) := by
  obtain ⟨v0, q1, q2⟩ := I.at h (by rintro rfl; cases ho)
  rw [e] at q1; cases q1
  obtain ⟨l', o0, e0, f0, z0, h0⟩ := own_addr q2 ho
  cases e0
  have hi : i < ρ.length := (List.getElem?_eq_some_iff.mp h).1
  have other : ∀ (j : Nat) (t : Slot), (ρ.set i s')[j]? = some t → (i = j ∧ t = s') ∨ (i ≠ j ∧ ρ[j]? = some t) := fun j t q => by
    rw [List.getElem?_set] at q
    by_cases ej : i = j
    · rw [if_pos ej, if_pos hi] at q; cases q; exact .inl ⟨ej, rfl⟩
    · rw [if_neg ej] at q; exact .inr ⟨ej, q⟩
  have nv : s'.isVw = false := by cases s' <;> first | rfl | cases ho'
  refine ⟨by rw [List.length_set]; exact I.len, fun j t q => ?_, fun j t q => ?_, fun j k t u l1 h1 h2 o1 o2 e1 e2 => ?_, fun b u z => ?_, I.exF, fun b u z hb => ?_, I.new, fun b z => ?_⟩
  · rcases other j t q with ⟨rfl, rfl⟩ | ⟨ej, q⟩
    · exact .inr ⟨_, e, S⟩
    · rcases I.slot j t q with z | ⟨u, u1, u2⟩
      · exact .inl z
      · refine .inr ⟨u, u1, u2.move (I.novw j t q) (Same.refl F) (fun b x to eb hb => ?_) fun b to eb => ?_⟩
        · subst eb
          rw [upd_ne (fun z => by subst z; exact ej (I.inj i j s t _ h q ho to e u1))]; exact hb
        · subst eb
          obtain ⟨_, _, z, z2, _⟩ := own_addr u2 to
          cases z; exact z2
  · rcases other j t q with ⟨rfl, rfl⟩ | ⟨ej, q⟩
    · exact nv
    · exact I.novw j t q
  · have old : ∀ (j : Nat) (t : Slot), (ρ.set i s')[j]? = some t → t.isOwn = true → ∃ t', ρ[j]? = some t' ∧ t'.isOwn = true := fun j t q to => by
      rcases other j t q with ⟨rfl, rfl⟩ | ⟨ej, q⟩
      · exact ⟨s, h, ho⟩
      · exact ⟨t, q, to⟩
    obtain ⟨t1, y1, y2⟩ := old j t h1 o1
    obtain ⟨u1, z1, z2⟩ := old k u h2 o2
    exact I.inj j k t1 u1 l1 y1 z1 y2 z2 e1 e2
  · rw [upd_ne (ne_of_none z f0)]; exact I.ex b u z
  · rw [upd_ne (ne_of_none z z0)]; exact I.keep b u z hb
  · obtain ⟨q, o1, q1⟩ := I.bag b z
    exact ⟨q.mono (Same.refl F) q.1 (upd_ne (ne_of_none q1 z0)), o1, q1⟩
end
section
variable {X : Cx} {W : WX} {xc : XC} {a b c e o : Expr} {es : List Expr} {ua ub uc ue : TE} {ut uu : TT} {ul : TA} {ta tb tc te : DTE} {tt tu tw : DTT} {tl : DTB} {pos p p2 apos cpos np : Pos} {K : PySem.W.Frag} {x : Str}

/-! ### xs.append(e), xs.insert(i, e) as statements -/
def withOwn (o : Option Slot) (k : List PyData → Prop) : Prop := match o with
  | some (.own ds) => k ds
  | _ => False
theorem withOwn.out {o : Option Slot} {k : List PyData → Prop} (h : withOwn o k) : ∃ ds, o = some (.own ds) ∧ k ds := by
  cases o with
  | none => exact h.elim
  | some s => cases s <;> first | exact ⟨_, rfl, h⟩ | exact h.elim
def withDat' (r : Slot) (k : PyData → Prop) : Prop := withDat r k
def dApp (i : Nat) (te : DTE) : DTS := fun D ρ => withOwn ρ[i]? fun _ => te ρ fun r ρ1 => withDat (frz ρ1 r).1 fun y => withOwn (frz ρ1 r).2[i]? fun ds => ds.length < 100000 ∧ D.nx ((frz ρ1 r).2.set i (.own (ds ++ [y])))
theorem sim_app (h : SimE K W xc ue te) : SimS K W xc (tDrop (tBM K "list" rAppend (tVar i) (tCons ue tNil))) (dApp i te) := by
  intro G ρ F σ H D DD hK hx I q k
  obtain ⟨ds0, e0, q⟩ := q.out
  obtain ⟨v, s1, s2⟩ := I.at e0 (by rintro ⟨⟩)
  refine ⟨v, s1, ?_⟩
  obtain ⟨l, vs0, rfl, _, _, h4, _⟩ := id s2
  refine ⟨.inl ⟨rfl, vs0, SqL.of h4⟩, ?_⟩
  refine h G ρ F σ H _ _ hK hx I q fun v r ρ1 F1 H1 q I1 R1 e1 f1 => ?_
  obtain ⟨F2, I2, e2, n2, S2, o2, w2⟩ := I1.freezeP R1 e1 f1
  obtain ⟨y, ey, q⟩ := q.out
  obtain ⟨ds, e3, hz, q⟩ := q.out
  rw [ey] at S2
  obtain ⟨v', t1, t2⟩ := I2.at e3 (by rintro ⟨⟩)
  rw [s1] at t1; cases t1
  obtain ⟨l', vs, e4, g2, g3, g4, g5⟩ := id t2
  cases e4
  refine ⟨l, vs, v, rfl, rfl, g4, by rw [g5.length]; exact sz_lt hz, ?_⟩
  exact k.nx _ F2 σ _ q (I2.mut (s' := .own (ds ++ [y])) e3 rfl s1 rfl ⟨l, vs ++ [v], rfl, g2, g3, upd_same, g5.append (Reps.cons S2 Reps.nil)⟩) e2.f
theorem ds_app {i : Nat} (he : DE X W xc e ue te) (hN : X.N[i]? = some x := by rfl) (hv : Vis X.env.scope x := by first | exact Or.inl rfl | exact Or.inr (Or.inl rfl) | exact Or.inr (Or.inr rfl)) (hd : (x == ("__debug__" : Str)) = false := by decide)
    (hcd : (x == ("__classdict__" : Str)) = false := by decide) (hbase : attributeBase (.Name x np) "append" X.env (eval (.Name x np) X.env) = eval (.Name x np) X.env := by rfl)
    (hfew : ((backTo cpos (starEach [e] X.env)).all (fun x => !x.1) && (backToKw cpos (keywordEach [] X.env)).all (fun x => x.1.isSome)
      && decide (([e] : List Expr).length + ([] : List Keyword).length + (if ([] : List Keyword).isEmpty then 0 else 1) < 30)) = true := by rfl)
    (hline : (apos.endLine == cpos.line) = true := by rfl) (hs : starEach [e] X.env = (false, eval e X.env) :: starEach [] X.env := by rfl) (hplain : (backTo cpos (starEach [] X.env)).any (·.1) = false := by rfl)
    (hsw : swapsWith (.Call (.Attribute (.Name x np) "append" apos) [e] [] cpos) none pos.line X.env = pure false := by rfl) :
    DS X W xc (.Expr (.Call (.Attribute (.Name x np) "append" apos) [e] [] cpos) pos) (tDrop (tBM X.K "list" rAppend (tVar i) (tCons ue tNil))) (dApp i te) :=
  ⟨ps_expr (pe_bm PySem.F.plainAttrs_list PySem.F.slot_list_append PySem.F.type_list_append mt_append (pv i hN hv hd hcd) (pa_cons he.p pa_nil hs) hbase hfew hline hs hplain) hsw, sim_app he.s⟩
def rInsA : V → List V → Hp → VK → Prop := fun x vs H Q => ∃ (l : Addr) (xs : List V) (i : Int) (y : V), x = .ref l ∧ vs = [.int i, y] ∧ H l = some (.lst xs) ∧ xs.length < sizeLine ∧ 0 ≤ i ∧ i < 2 ^ 63 ∧
    Q .non (upd H l (.lst (xs.take i.toNat ++ [y] ++ xs.drop i.toNat)))
def insD (ds : List PyData) (n : Nat) (y : PyData) : List PyData := ds.take n ++ [y] ++ ds.drop n
def dIns (i : Nat) (tn te : DTE) : DTS := fun D ρ => withOwn ρ[i]? fun _ => tn ρ fun rn ρ1 => te ρ1 fun r ρ2 => withD (look ρ2 (frS rn)) fun dn => match dn with
  | .int n => withDat (frz ρ2 r).1 fun y => withOwn (frz ρ2 r).2[i]? fun ds => (ds.length < 100000 ∧ 0 ≤ n ∧ n < 1000000) ∧ D.nx ((frz ρ2 r).2.set i (.own (insD ds n.toNat y)))
  | _ => False
theorem sim_ins {un : TE} {tn : DTE} (hn : SimE K W xc un tn) (h : SimE K W xc ue te) : SimS K W xc (tDrop (tBM K "list" rInsA (tVar i) (tCons un (tCons ue tNil)))) (dIns i tn te) := by
  intro G ρ F σ H D DD hK hx I q k
  obtain ⟨ds0, e0, q⟩ := q.out
  obtain ⟨v, s1, s2⟩ := I.at e0 (by rintro ⟨⟩)
  refine ⟨v, s1, ?_⟩
  obtain ⟨l, vs0, rfl, _, _, h4, _⟩ := id s2
  refine ⟨.inl ⟨rfl, vs0, SqL.of h4⟩, ?_⟩
  refine hn G ρ F σ H _ _ hK hx I q fun vn rn ρ1 F1 H1 q I1 R1 e1 f1 => ?_
  obtain ⟨F1', I1', e1', _, S1, o1⟩ := I1.heldP R1 e1 f1
  refine h G ρ1 F1' σ H1 _ _ hK hx I1' q fun v r ρ2 F2 H2 q I2 R2 e2 f2 => ?_
  obtain ⟨dn, ln, q⟩ := q.out
  have zn := I2.vw (S1.later o1 e2.f) ln
  cases dn with
  | int n =>
    obtain ⟨F3, I3, e3, n3, S3, o3, w3⟩ := I2.freezeP R2 e2 f2
    obtain ⟨y, ey, q⟩ := q.out
    obtain ⟨ds, e4, hz, q⟩ := q.out
    rw [ey] at S3
    obtain ⟨v', t1, t2⟩ := I3.at e4 (by rintro ⟨⟩)
    rw [s1] at t1; cases t1
    obtain ⟨l', vs, e5, g2, g3, g4, g5⟩ := id t2
    cases e5
    rw [vw_int zn]
    refine ⟨l, vs, n, v, rfl, rfl, g4, by rw [g5.length]; exact sz_lt hz.1, hz.2.1, by omega, ?_⟩
    exact k.nx _ F3 σ _ q (I3.mut (s' := .own (insD ds n.toNat y)) e4 rfl s1 rfl ⟨l, _, rfl, g2, g3, upd_same, ((g5.take _).append (Reps.cons S3 Reps.nil)).append (g5.drop _)⟩) (e1'.f.trans e3.f)
  | none => exact q.elim
  | bool _ => exact q.elim
  | str _ => exact q.elim
  | list _ => exact q.elim
  | tuple _ => exact q.elim
  | dict _ => exact q.elim
theorem ds_ins {i : Nat} {n : Expr} {un : TE} {tn : DTE} (hn : DE X W xc n un tn) (he : DE X W xc e ue te) (hN : X.N[i]? = some x := by rfl) (hv : Vis X.env.scope x := by first | exact Or.inl rfl | exact Or.inr (Or.inl rfl) | exact Or.inr (Or.inr rfl)) (hd : (x == ("__debug__" : Str)) = false := by decide)
    (hcd : (x == ("__classdict__" : Str)) = false := by decide) (hbase : attributeBase (.Name x np) "insert" X.env (eval (.Name x np) X.env) = eval (.Name x np) X.env := by rfl)
    (hfew : ((backTo cpos (starEach [n, e] X.env)).all (fun x => !x.1) && (backToKw cpos (keywordEach [] X.env)).all (fun x => x.1.isSome)
      && decide (([n, e] : List Expr).length + ([] : List Keyword).length + (if ([] : List Keyword).isEmpty then 0 else 1) < 30)) = true := by rfl)
    (hline : (apos.endLine == cpos.line) = true := by rfl) (hs : starEach [n, e] X.env = (false, eval n X.env) :: starEach [e] X.env := by rfl) (hs2 : starEach [e] X.env = (false, eval e X.env) :: starEach [] X.env := by rfl) (hplain : (backTo cpos (starEach [e] X.env)).any (·.1) = false := by rfl)
    (hsw : swapsWith (.Call (.Attribute (.Name x np) "insert" apos) [n, e] [] cpos) none pos.line X.env = pure false := by rfl) :
    DS X W xc (.Expr (.Call (.Attribute (.Name x np) "insert" apos) [n, e] [] cpos) pos) (tDrop (tBM X.K "list" rInsA (tVar i) (tCons un (tCons ue tNil)))) (dIns i tn te) :=
  ⟨ps_expr (pe_bm PySem.F.plainAttrs_list PySem.F.slot_list_insert PySem.F.type_list_insert mt_insert (pv i hN hv hd hcd) (pa_cons hn.p (pa_cons he.p pa_nil hs2) hs) hbase hfew hline hs hplain) hsw, sim_ins hn.s he.s⟩

/-! ### dicts whose keys are tuples of ints and texts -/
def dNewT : DTE := fun ρ Q => Q (.ownT []) ρ
theorem de_dnewT : DE X W xc (.Dict [] [] pos) tDNewT dNewT := by
  refine ⟨pe_dnewT, fun G ρ F σ H Q QQ hK hx I q k => fun p hp => ?_⟩
  obtain ⟨F3, I3, e3, R3, f3⟩ := (Out.dT (K := G.K) (F := F) (ds := []) (vs := []) hp rfl).ok I
  exact k _ _ ρ F3 _ q I3 R3 e3 f3
def keysD : List PyData → Option (List Key)
  | [] => some []
  | .int i :: r => (keysD r).map (Sum.inl i :: ·)
  | .str i :: r => (keysD r).map (Sum.inr i :: ·)
  | _ :: _ => none
theorem keysD_vs {F : Hp} : ∀ {ds : List PyData} {ks : List Key} {vs : List V}, keysD ds = some ks → Reps K F ds vs → vs = ks.map kV
  | [], _, _, h, r => by cases h; simpa only [Reps, List.map_nil] using r
  | .int i :: t, ns, vs, h, r => by
    simp only [keysD] at h
    obtain ⟨v, ws, rfl, h1, h2⟩ := r.split
    cases z : keysD t with
    | none => rw [z] at h; cases h
    | some ms =>
      rw [z] at h; cases h
      simp only [Rep] at h1
      rw [h1, keysD_vs z h2]; rfl
  | .str i :: t, ns, vs, h, r => by
    simp only [keysD] at h
    obtain ⟨v, ws, rfl, h1, h2⟩ := r.split
    cases z : keysD t with
    | none => rw [z] at h; cases h
    | some ms =>
      rw [z] at h; cases h
      simp only [Rep] at h1
      rw [h1, keysD_vs z h2]; rfl
  | .none :: _, _, _, h, _ => by cases h
  | .bool _ :: _, _, _, h, _ => by cases h
  | .list _ :: _, _, _, h, _ => by cases h
  | .tuple _ :: _, _, _, h, _ => by cases h
  | .dict _ :: _, _, _, h, _ => by cases h
theorem keysD_ints : ∀ (ns : List Int), keysD (ns.map .int) = some (ns.map Sum.inl)
  | [] => rfl
  | n :: ns => by rw [List.map_cons, keysD, keysD_ints ns]; rfl
def withK (o : Option (List Key)) (k : List Key → Prop) : Prop := match o with
  | some d => k d
  | none => False
theorem withK.out {o : Option (List Key)} {k : List Key → Prop} (h : withK o k) : ∃ d, o = some d ∧ k d := by
  cases o with
  | none => exact h.elim
  | some d => exact ⟨d, rfl, h⟩
def putD {κ : Type} [DecidableEq κ] (kvs : List (κ × PyData)) (k : κ) (v : PyData) : List (κ × PyData) :=
  if (kvs.any fun kv => decide (kv.1 = k)) = true then kvs.map (fun kv => if kv.1 = k then (kv.1, v) else kv) else kvs ++ [(k, v)]
theorem KVs.any {κ : Type} [DecidableEq κ] {F : Hp} {k : κ} : ∀ {kvs : List (κ × PyData)} {ps : List (κ × V)}, KVs K F kvs ps → (ps.any fun kv => decide (kv.1 = k)) = (kvs.any fun kv => decide (kv.1 = k))
  | [], _, h => by have h : _ = [] := h; subst h; rfl
  | (q, d) :: r, ps, ⟨v, t, h1, h2, h3⟩ => by subst h1; rw [List.any_cons, List.any_cons, KVs.any h3]
theorem KVs.repl {κ : Type} [DecidableEq κ] {F : Hp} {k : κ} {y : PyData} {u : V} (hy : Rep K F y u) : ∀ {kvs : List (κ × PyData)} {ps : List (κ × V)}, KVs K F kvs ps → KVs K F (kvs.map fun kv => if kv.1 = k then (kv.1, y) else kv) (ps.map fun kv => if kv.1 = k then (kv.1, u) else kv)
  | [], _, h => by have h : _ = [] := h; subst h; rfl
  | (q, d) :: r, ps, ⟨v, t, h1, h2, h3⟩ => by
    subst h1
    rw [List.map_cons, List.map_cons]
    dsimp only
    by_cases e : q = k
    · rw [if_pos e, if_pos e]; exact ⟨u, _, rfl, hy, KVs.repl hy h3⟩
    · rw [if_neg e, if_neg e]; exact ⟨v, _, rfl, h2, KVs.repl hy h3⟩
theorem KVs.snoc {κ : Type} {F : Hp} {k : κ} {y : PyData} {u : V} (hy : Rep K F y u) : ∀ {kvs : List (κ × PyData)} {ps : List (κ × V)}, KVs K F kvs ps → KVs K F (kvs ++ [(k, y)]) (ps ++ [(k, u)])
  | [], _, h => by have h : _ = [] := h; subst h; exact ⟨u, [], rfl, hy, rfl⟩
  | (q, d) :: r, ps, ⟨v, t, h1, h2, h3⟩ => by subst h1; exact ⟨v, _, rfl, h2, KVs.snoc hy h3⟩
theorem KVs.put {κ : Type} [DecidableEq κ] {F : Hp} {k : κ} {y : PyData} {u : V} {kvs : List (κ × PyData)} {ps : List (κ × V)} (h : KVs K F kvs ps) (hy : Rep K F y u) : KVs K F (putD kvs k y) (putK ps k u) := by
  unfold putD putK
  rw [h.any]
  by_cases e : (kvs.any fun kv => decide (kv.1 = k)) = true
  · rw [if_pos e, if_pos e]; exact h.repl hy
  · rw [if_neg e, if_neg e]; exact h.snoc hy
def getD {κ : Type} [DecidableEq κ] (kvs : List (κ × PyData)) (k : κ) : Option PyData := (kvs.find? fun kv => decide (kv.1 = k)).map (·.2)
theorem KVs.get {κ : Type} [DecidableEq κ] {F : Hp} {k : κ} {d : PyData} : ∀ {kvs : List (κ × PyData)} {ps : List (κ × V)}, KVs K F kvs ps → getD kvs k = some d → ∃ v, valV ps k = some v ∧ Rep K F d v
  | [], _, h, e => by cases e
  | (q, y) :: r, ps, ⟨v, t, h1, h2, h3⟩, e => by
    subst h1
    by_cases z : q = k
    · have : y = d := by simpa [getD, List.find?_cons, z] using e
      subst this
      exact ⟨v, by simp [valV, List.find?_cons, z], h2⟩
    · have e' : getD r k = some d := by simpa [getD, List.find?_cons, z] using e
      obtain ⟨u, u1, u2⟩ := KVs.get h3 e'
      exact ⟨u, by simpa [valV, List.find?_cons, z] using u1, u2⟩
/-- d[key] = v, d a local name -/
def withT (o : Option Slot) (k : List (List Key × PyData) → Prop) : Prop := match o with
  | some (.ownT ds) => k ds
  | _ => False
theorem withT.out {o : Option Slot} {k : List (List Key × PyData) → Prop} (h : withT o k) : ∃ ds, o = some (.ownT ds) ∧ k ds := by
  cases o with
  | none => exact h.elim
  | some s => cases s <;> first | exact ⟨_, rfl, h⟩ | exact h.elim
def dPutT (i : Nat) (tk tv : DTE) : DTS := fun D ρ => tv ρ fun rv ρ1 => withT (frz ρ1 rv).2[i]? fun _ => withDat (frz ρ1 rv).1 fun y => tk (frz ρ1 rv).2 fun rk ρ2 => withDat rk fun dk => match dk with
  | .tuple es => withK (keysD es) fun k => withT ρ2[i]? fun kvs => kvs.length < 100000 ∧ D.nx (ρ2.set i (.ownT (putD kvs k y)))
  | _ => False
theorem sim_putT {i : Nat} {uk uv : TE} {tk tv : DTE} (hv : SimE K W xc uv tv) (hk : SimE K W xc uk tk) : SimS K W xc (sDPut (tVar i) uk uv) (dPutT i tk tv) := by
  intro G ρ F σ H D DD hK hx I q k
  refine hv G ρ F σ H _ _ hK hx I q fun v rv ρ1 F1 H1 q I1 R1 e1 f1 => ?_
  obtain ⟨F2, I2, e2, n2, S2, o2, w2⟩ := I1.freezeP R1 e1 f1
  obtain ⟨kv0, e0, q⟩ := q.out
  obtain ⟨y, ey, q⟩ := q.out
  rw [ey] at S2
  obtain ⟨vd, s1, s2⟩ := I2.at e0 (by rintro ⟨⟩)
  refine ⟨vd, s1, ?_⟩
  refine hk G _ F2 σ H1 _ _ hK hx I2 q fun vk rk ρ2 F3 H3 q I3 R3 e3 f3 => ?_
  obtain ⟨dk, ek, q⟩ := q.out
  subst ek
  cases dk with
  | tuple es =>
    obtain ⟨ks, e4, q⟩ := withK.out q
    obtain ⟨kvs, e5, hz, q⟩ := q.out
    have z := R3.1
    simp only [SlotOk, Rep] at z
    obtain ⟨b, us, rfl, g2, g3⟩ := z
    rw [keysD_vs e4 g3] at g2
    obtain ⟨v', t1, t2⟩ := I3.at e5 (by rintro ⟨⟩)
    rw [s1] at t1; cases t1
    obtain ⟨l, ps, rfl, l2, l3, l4, l5⟩ := id t2
    have S3 : Rep G.K F3 y v := Rep.mono e3.f _ _ S2
    refine ⟨l, _, rfl, DPut.t l4 (I3.ex _ _ g2) (by rw [l5.length]; exact sz_lt hz), ?_⟩
    exact k.nx _ F3 σ _ q (I3.mut (s' := .ownT (putD kvs ks y)) e5 rfl s1 rfl ⟨l, _, rfl, l2, l3, upd_same, l5.put S3⟩) (e2.f.trans e3.f)
  | none => exact q.elim
  | bool _ => exact q.elim
  | int _ => exact q.elim
  | str _ => exact q.elim
  | list _ => exact q.elim
  | dict _ => exact q.elim
theorem ds_putT {i : Nat} {key value : Expr} {uk uv : TE} {tk tv : DTE} {p3 : Pos} (hu : X.A.units + 1 < cLine) (hk : DE X W xc key uk tk) (hv : DE X W xc value uv tv) (hN : X.N[i]? = some x := by rfl) (hvs : Vis X.env.scope x := by first | exact Or.inl rfl | exact Or.inr (Or.inl rfl) | exact Or.inr (Or.inr rfl)) (hd : (x == ("__debug__" : Str)) = false := by decide)
    (hcd : (x == ("__classdict__" : Str)) = false := by decide) (hs : swapsWith value (some (.Subscript (.Name x np) key p3)) pos.line X.env = pure false := by rfl) :
    DS X W xc (.Assign [.Subscript (.Name x np) key p3] value pos) (sDPut (tVar i) uk uv) (dPutT i tk tv) := ⟨ps_dput hu (pv i hN hvs hd hcd) hk.p hv.p hs, sim_putT hv.s hk.s⟩
/-- d[key] of a dict that is there -/
def kvsT : List (PyData × PyData) → Option (List (List Key × PyData))
  | [] => some []
  | (.tuple es, d) :: r => match keysD es, kvsT r with
    | some k, some t => some ((k, d) :: t)
    | _, _ => none
  | _ :: _ => none
theorem tkey_inj : ∀ {a b : List Key}, tkeyD a = tkeyD b → a = b
  | [], [], _ => rfl
  | [], _ :: _, h => by simp [tkeyD] at h
  | _ :: _, [], h => by simp [tkeyD] at h
  | x :: a, y :: b, h => by
    simp only [tkeyD, List.map_cons, PyData.tuple.injEq, List.cons.injEq] at h
    have h1 : x = y := by
      cases x <;> cases y <;> simp [keyD] at h
      · rw [h.1]
      · rw [h.1]
    have h2 := tkey_inj (a := a) (b := b) (by simp only [tkeyD, PyData.tuple.injEq]; exact h.2)
    rw [h1, h2]
theorem keysD_tkey {es : List PyData} {k : List Key} (h : keysD es = some k) : tkeyD k = .tuple es := by
  unfold tkeyD
  congr 1
  induction es generalizing k with
  | nil => cases h; rfl
  | cons e es ih =>
    cases e with
    | int i =>
      simp only [keysD] at h
      cases z : keysD es with
      | none => rw [z] at h; cases h
      | some ms => rw [z] at h; cases h; rw [List.map_cons, ih z]; rfl
    | str i =>
      simp only [keysD] at h
      cases z : keysD es with
      | none => rw [z] at h; cases h
      | some ms => rw [z] at h; cases h; rw [List.map_cons, ih z]; rfl
    | none => cases h
    | bool _ => cases h
    | list _ => cases h
    | tuple _ => cases h
    | dict _ => cases h
def withKT (o : Option (List (List Key × PyData))) (k : List (List Key × PyData) → Prop) : Prop := match o with
  | some d => k d
  | none => False
theorem withKT.out {o : Option (List (List Key × PyData))} {k : List (List Key × PyData) → Prop} (h : withKT o k) : ∃ d, o = some d ∧ k d := by
  cases o with
  | none => exact h.elim
  | some d => exact ⟨d, rfl, h⟩
theorem kvsT_dT : ∀ (kvs : List (List Key × PyData)), kvsT (kvs.map fun p => (tkeyD p.1, p.2)) = some kvs
  | [] => rfl
  | (k, d) :: r => by
    have e : keysD (k.map keyD) = some k := by
      induction k with
      | nil => rfl
      | cons a k ih => cases a <;> rw [List.map_cons, keyD, keysD, ih] <;> rfl
    rw [List.map_cons]
    show (match keysD (k.map keyD), kvsT (r.map fun p => (tkeyD p.1, p.2)) with
      | some k, some t => some ((k, d) :: t)
      | _, _ => none) = _
    rw [e, kvsT_dT r]
theorem kvsT_rep {F : Hp} : ∀ {kvs : List (PyData × PyData)} {t : List (List Key × PyData)} {ps : List (List Key × V)}, kvsT kvs = some t → RepT K F kvs ps → KVs K F t ps
  | [], _, _, h, r => by
    cases h
    simp only [RepT] at r
    subst r
    rfl
  | (.tuple es, d) :: r, t, ps, h, q => by
    simp only [RepT] at q
    obtain ⟨k, v, ps', rfl, e, hd, q⟩ := q
    simp only [kvsT] at h
    cases z : keysD es with
    | none => rw [z] at h; cases h
    | some k2 =>
      cases z2 : kvsT r with
      | none => rw [z, z2] at h; cases h
      | some t2 =>
        rw [z, z2] at h
        cases h
        have : k2 = k := tkey_inj ((keysD_tkey z).trans e)
        subst this
        exact ⟨v, _, rfl, hd, kvsT_rep z2 q⟩
  | (.none, _) :: _, _, _, h, _ => by cases h
  | (.bool _, _) :: _, _, _, h, _ => by cases h
  | (.int _, _) :: _, _, _, h, _ => by cases h
  | (.str _, _) :: _, _, _, h, _ => by cases h
  | (.list _, _) :: _, _, _, h, _ => by cases h
  | (.dict _, _) :: _, _, _, h, _ => by cases h
/-- a dict of tuple keys, seen -/
theorem vw_dT {F H : Hp} {kvs : List (PyData × PyData)} {t : List (List Key × PyData)} {v : V} (h : Vw K F H (.dict kvs) v) (e : kvsT kvs = some t) (ne : t ≠ []) : ∃ a ps, v = .ref a ∧ H a = some (.dT ps) ∧ KVs K F t ps := by
  obtain ⟨a, rfl, h | h⟩ := h
  · obtain ⟨ps, h1, h2⟩ := h
    cases kvs with
    | nil => cases e; exact absurd rfl ne
    | cons p r =>
      obtain ⟨k, d⟩ := p
      simp only [RepK] at h2
      obtain ⟨q, _, _, _, ek, _⟩ := h2
      cases k <;> first | cases e | (cases q <;> cases ek)
  · obtain ⟨ps, h1, h2⟩ := h
    exact ⟨a, ps, rfl, h1, kvsT_rep e h2⟩
def dGetT (td tk : DTE) : DTE := fun ρ Q => td ρ fun r1 ρ1 => tk ρ1 fun rk ρ2 => withD (look ρ2 (frS r1)) fun dd => withDat rk fun dk => match dd, dk with
  | .dict kvs, .tuple es => withKT (kvsT kvs) fun t => withK (keysD es) fun k => withD (getD t k) fun y => Q (.dat y) ρ2
  | _, _ => False
theorem sim_getT {uk : TE} {tk : DTE} (hd : SimE K W xc ua ta) (hk : SimE K W xc uk tk) : SimE K W xc (tDGet ua uk) (dGetT ta tk) := by
  intro G ρ F σ H Q QQ hK hx I h k
  refine hd G ρ F σ H _ _ hK hx I h fun x r1 ρ1 F1 H1 h I1 R1 e1 f1 => ?_
  obtain ⟨F1', I1', e1', _, S1, o1⟩ := I1.heldP R1 e1 f1
  refine hk G ρ1 F1' σ H1 _ _ hK hx I1' h fun vk rk ρ2 F2 H2 h I2 R2 e2 f2 => ?_
  obtain ⟨dd, l, h⟩ := h.out
  obtain ⟨dk, ek, h⟩ := h.out
  subst ek
  have z := I2.vw (S1.later o1 e2.f) l
  cases dd with
  | dict kvs =>
    cases dk with
    | tuple es =>
      obtain ⟨t, et, h⟩ := withKT.out h
      obtain ⟨ks, ek, h⟩ := h.out
      obtain ⟨y, ey, h⟩ := h.out
      obtain ⟨a, ps, rfl, y1, y2⟩ := vw_dT z et (by rintro rfl; cases ey)
      have w := R2.1
      simp only [SlotOk, Rep] at w
      obtain ⟨b, us, rfl, g2, g3⟩ := w
      rw [keysD_vs ek g3] at g2
      obtain ⟨u, u1, u2⟩ := y2.get ey
      exact ⟨a, u, rfl, .inr ⟨ps, ks, b, Rd.of y1, rfl, I2.ex _ _ g2, u1.symm⟩, k _ _ ρ2 F2 H2 h I2 ⟨u2, fun z => by cases z⟩ (e1'.trans e2) (Fresh.no rfl)⟩
    | none => exact h.elim
    | bool _ => exact h.elim
    | int _ => exact h.elim
    | str _ => exact h.elim
    | list _ => exact h.elim
    | dict _ => exact h.elim
  | none => exact h.elim
  | bool _ => exact h.elim
  | int _ => exact h.elim
  | str _ => exact h.elim
  | list _ => exact h.elim
  | tuple _ => exact h.elim
theorem de_getT {uk : TE} {tk : DTE} (hu : X.A.units + 1 < cLine) (ha : DE X W xc a ua ta) (hk : DE X W xc b uk tk) (hs : NoSl b := by intro _ _; rfl) : DE X W xc (.Subscript a b pos) (tDGet ua uk) (dGetT ta tk) := ⟨pe_dget hu ha.p hk.p hs, sim_getT ha.s hk.s⟩
/-- d.clear() -/
def rDClrT : V → List V → Hp → VK → Prop := fun x vs H Q => ∃ (a : Addr) (kvs : List (List Key × V)), x = .ref a ∧ vs = [] ∧ H a = some (.dT kvs) ∧ Q .non (upd H a (.dT []))
theorem mtd_clrT : MtR X "dict.clear" rDClrT := by
  intro pins s σ H x vs v us Q I rx rv h
  obtain ⟨a, kvs, rfl, rfl, e, q⟩ := h
  cases rx
  cases rv.zero
  obtain ⟨z, hd, xs, rel, o, es, ep, ho, hx, hdat, hes, hn⟩ := (show ObjOk X.prog X.w H s.heap a (.dT kvs) from I.hok a _ e)
  have hsz : es.size ≤ sizeLine := by
    have e1 : es.size = es.toList.length := Array.length_toList.symm
    rw [e1, hes, List.length_map, ← Paired.length rel]
    exact z
  refine call_meetsIn PySem.F.slot_dict_clear ⟨o, ho, hx.1⟩ PySem.F.entry_dict_clear (PySem.F.args_dict_clear_1 _) (PySem.meets_dict_clear_raw a) ⟨es, ep, ⟨o, ho, hx, hdat⟩, hsz, fun h' hr' hs' => ?_⟩
  obtain ⟨o', ho', hc', hdat'⟩ := hr'
  exact ⟨.non, _, d_write (t' := s.toks) (ob := .dT []) I (by rw [e]; exact True.intro) hs' ⟨o', ho'⟩ ⟨Nat.zero_le _, hd, [], .nil, o', #[], ep + 1, ho', hc', hdat', rfl, List.nodup_nil⟩, rfl, q⟩
def dClrT (i : Nat) : DTS := fun D ρ => withT ρ[i]? fun _ => D.nx (ρ.set i (.ownT []))
theorem ds_clrT {i : Nat} (hN : X.N[i]? = some x := by rfl) (hv : Vis X.env.scope x := by first | exact Or.inl rfl | exact Or.inr (Or.inl rfl) | exact Or.inr (Or.inr rfl)) (hd : (x == ("__debug__" : Str)) = false := by decide)
    (hcd : (x == ("__classdict__" : Str)) = false := by decide) (hbase : attributeBase (.Name x np) "clear" X.env (eval (.Name x np) X.env) = eval (.Name x np) X.env := by rfl) (hline : (apos.endLine == cpos.line) = true := by rfl)
    (hsw : swapsWith (.Call (.Attribute (.Name x np) "clear" apos) [] [] cpos) none pos.line X.env = pure false := by rfl) :
    DS X W xc (.Expr (.Call (.Attribute (.Name x np) "clear" apos) [] [] cpos) pos) (tDrop (tBM0 X.K "dict" rDClrT (tVar i))) (dClrT i) := by
  refine ⟨ps_expr (pe_bm0 PySem.F.plainAttrs_dict PySem.F.slot_dict_clear PySem.F.type_dict_clear mtd_clrT (pv i hN hv hd hcd) hbase hline) hsw, fun G ρ F σ H D DD hK hx I q k => ?_⟩
  obtain ⟨kvs, e0, q⟩ := q.out
  obtain ⟨v, s1, s2⟩ := I.at e0 (by rintro ⟨⟩)
  refine ⟨v, s1, ?_⟩
  obtain ⟨l, ps, rfl, h2, h3, h4, _⟩ := id s2
  refine ⟨.inr (.inr (.inl ⟨rfl, .inr ⟨ps, h4⟩⟩)), l, ps, rfl, rfl, h4, ?_⟩
  exact k.nx _ F σ _ q (I.mut (s' := .ownT []) e0 rfl s1 rfl ⟨l, [], rfl, h2, h3, upd_same, rfl⟩) (Same.refl F)

/-! ### *xs, x = a list -/
def gStar (K : PySem.W.Frag) (g1 g2 : TG) : TG := fun v σ H Q => ∃ a xs y, v = .ref a ∧ SqL K H a (xs ++ [y]) ∧ xs.length < 16000 ∧ ∀ D, H D = none → g1 (.ref D) σ (upd H D (.lst xs)) fun σ1 H1 => g2 y σ1 H1 Q
theorem star_list {prog : Program} {w : World} {A : Around} {E : Value → Shared → Prop} {s : Shared} {l : Addr} {items : Array Value} {Q : List Value → Shared → Prop} (hl : s.heap.IsList l items) (hh : A.handled = none) (hn : 1 ≤ items.size) (hz : items.size ≤ 16384)
    (h : ∀ (h' : Heap) (tk : Nat), (∀ b o, s.heap.get? b = some o → h'.get? b = some o) → Q [.ref h'.objs.size, items.toList.getD (items.size - 1) .none] { s with heap := h'.push { cls := .type "list", data := .seq (items.toList.take (items.size - 1)).toArray }, toks := tk }) :
    wpAny (model prog w) A (unpackItems (.ref l) 2 (some 0)) Q E s := by
  obtain ⟨o, ho, hoc⟩ := id hl
  have hlt : l ≠ s.heap.objs.size := Nat.ne_of_lt (Heap.lt_size ho)
  have hll : l < s.heap.objs.size := Heap.lt_size ho
  unfold unpackItems
  refine wpAny_bind ?_
  unfold notIterableAtAll
  refine wpAny_bind (wpAny_specialOf hl.typeIs PySem.F.slot_list_iter.lookup ?_)
  refine wpAny_pure ?_
  simp only [Bool.false_eq_true, if_false]
  refine wpAny_bind (wpAny_holding (wpAny_pyIter_list hl ?_))
  refine wpAny_bind (wpAny_holding (wpAny_pure ?_))
  rw [if_neg (show ¬ (([] : List Value).length < 0) from Nat.not_lt_zero _)]
  have hit : (s.heap.push { cls := .type "list_iterator", data := .fields #[.ref l, .int 0 0] }).IsListIter s.heap.objs.size l 0 := ⟨_, Heap.get?_push_size _ rfl, rfl, rfl⟩
  refine wpAny_bind (wpAny_holding (PySem.W.kun_collect (s := { s with heap := s.heap.push { cls := .type "list_iterator", data := .fields #[.ref l, .int 0 0] } }) (T := "list_iterator") (.inr (.inr (.inl rfl))) (Walks.list (A := A.in1) hh s.heap.objs.size l hlt items) (fun j u st => st.1.typeIs) (k := 0) (Nat.zero_le _) ⟨hit, hl.push _⟩ (Heap.lt_size (Heap.get?_push_size s.heap rfl)) (Heap.lt_size (Heap.get?_push_of_some _ ho)) (fun h₂ tk hk => ?_) (by rw [sizeLine_eq]; omega)))
  have hlen : items.toList.length = items.size := Array.length_toList
  rw [List.drop_zero]
  show wpAny _ _ (if items.toList.length < 2 - 1 - 0 then _ else _) _ _ _
  rw [if_neg (by rw [hlen]; omega)]
  show wpAny _ _ (newList (items.toList.take (items.toList.length - (2 - 1 - 0))) >>= fun d => pure (([] : List Value) ++ [d] ++ items.toList.drop (items.toList.length - (2 - 1 - 0)))) _ _ _
  have e1 : items.toList.length - (2 - 1 - 0) = items.size - 1 := by rw [hlen]
  rw [e1]
  refine wpAny_bind (wpAny_newList ?_ (by rw [List.length_take, hlen, sizeLine_eq]; omega))
  have hk' : ∀ b o, s.heap.get? b = some o → h₂.get? b = some o := fun b o e => hk b o (Nat.ne_of_lt (Heap.lt_size e)) (Heap.get?_push_of_some _ e)
  have e2 : items.toList.drop (items.size - 1) = [items.toList.getD (items.size - 1) .none] := by
    have hlt' : items.size - 1 < items.toList.length := by rw [hlen]; omega
    rw [List.drop_eq_getElem_cons hlt', List.getD_eq_getElem?_getD, List.getElem?_eq_getElem hlt']
    rw [List.drop_of_length_le (by rw [hlen]; omega)]
    rfl
  rw [e2]
  exact wpAny_pure (h h₂ tk hk')
theorem pg_star {e1 e2 : Expr} {g1 g2 : TG} {p3 : Pos} {k : Nat} (hc : X.calm = true) (h1 : PG X e1 g1) (h2 : PG X e2 g2) (hae : assignEach [.Starred e1 p3, e2] X.env = [(true, assign e1 X.env), (false, assign e2 X.env)] := by rfl) : PG X (.Tuple [.Starred e1 p3, e2] k pos) (gStar X.K g1 g2) := by
  refine ⟨fun pins s σ H v u Q I r hw => ?_⟩
  obtain ⟨a, xs, y, rfl, hq, hz, hw⟩ := hw
  cases r
  obtain ⟨its, rv, pl, hl⟩ := I.list hq
  have hlen := rv.length
  rw [List.length_append, List.length_singleton] at hlen
  rw [PyProof.Rows.assign_Tuple]
  refine wpAny_bind (wpAny_standAt ?_)
  unfold unpack
  rw [hae]
  show wpAny _ _ (holding [Value.ref a] (unpackItems (.ref a) 2 (some 0)) >>= fun us => assignInOrder [assign e1 X.env, assign e2 X.env] us) _ _ _
  refine wpAny_bind (wpAny_holding (star_list pl.isList (I.ok.hd hc) (by rw [List.size_toArray]; omega) (by rw [List.size_toArray]; omega) fun h' tk hk => ?_))
  have I1 : Inv X pins σ H { s with heap := h', toks := tk } := I.kept hk
  have e1 : its.toArray.toList = its := List.toList_toArray
  have rx : Vals xs (its.take xs.length) := by
    have := rv.take xs.length
    rwa [List.take_left' rfl] at this
  have ry : RelV y (its.getD xs.length .none) := by
    obtain ⟨w, w1, w2⟩ := rv.get (i := xs.length) (x := y) (by simp)
    rw [List.getD_eq_getElem?_getD, w1]
    exact w2
  have e2 : its.toArray.size - 1 = xs.length := by rw [List.size_toArray]; omega
  rw [e2, List.toList_toArray]
  have I2 := I1.lnew (t' := tk) rx (by rw [sizeLine_eq]; omega)
  have hf := I1.hok.fresh (Nat.le_refl h'.objs.size)
  refine PyProof.Rows.assignInOrder_cons (thn (h1.run pins _ σ _ (.ref h'.objs.size) _ _ I2 rfl (hw _ hf)) fun _ s2 ⟨σ1, H1, I3, q⟩ => ?_)
  exact PyProof.Rows.assignInOrder_cons (thn (h2.run pins _ σ1 H1 y _ _ I3 ry q) fun _ s3 q3 => PyProof.Rows.assignInOrder_nil q3)
end
end DL

-- part DExc
set_option Elab.async false
set_option maxRecDepth 100000
set_option maxHeartbeats 400000
namespace DL
open PySem L2

/-! ### isinstance of a caught error that has a dict of its own -/
section
open PySem.W PySem.Calls PyProof.Rows
variable {prog : Program} {w : World} {A : Around} {E : Value → Shared → Prop} {s : Shared} {K : Frag} {x D : Addr} {ox oy : Obj}
theorem own_find {C : Addr} {od : Option Obj} {nm : Str} {at_ gt : Value} (c1 : (clsIn K C).isSome = true) (c2 : findIn K (.ref C) nm = some (some at_)) (c3 : specialIn K at_ "__get__" = some (some gt)) (c4 : takesIn K at_ = some true) : findObj K C od nm = some (.bind gt at_) := by
  obtain ⟨cd, c1⟩ := Option.isSome_iff_exists.mp c1
  simp only [findObj, c1, Option.bind_some, c2, c3, c4]
theorem class_of_err {Q : Option Value → Shared → Prop} (T : ExcC K D) (X : K.In s.heap) (J : InstAt s.heap x ox D (some oy)) (goal : Q (some (.ref D)) { s with toks := s.toks + 1 }) : wpAny (model prog w) A (getAttr? (.ref x) "__class__") Q E s := by
  have found : findObj K D (some oy) "__class__" = some (.bind (.builtin "getset_descriptor.__get__") (.builtin "object.__class__")) := own_find (by obtain ⟨cd, hc, _⟩ := any_some T.hd; rw [hc]; rfl) T.ha T.hn T.ht
  obtain ⟨hp, gs, dw, tk, os⟩ := s
  have l0 := J.type (M := model prog w)
  have l1 := looks_findIn (M := model prog w) X T.hg
  have l2 := looks_findIn (M := model prog w) X T.hk
  have l3 := looks_find (M := model prog w) X J found
  have isB : Looks (model prog w) hp (isInstance (.ref x) (.type "BaseException")) true := l0.andThen (looks_subIn X T.hs)
  have n0 : (Value.builtin "BaseException.__getattribute__" == Value.builtin "object.__getattribute__") = false := by decide +kernel
  have n1 : (onTheHeap (Value.ref D) && Value.builtin "BaseException.__getattribute__" == Value.builtin "object.__getattribute__") = false := by rw [n0]; rfl
  have n2 : (false && onTheHeap (Value.builtin "BaseException.__getattribute__")) = false := rfl
  unfold getAttr? getAttrBy? getAttrBy
  refine wpAny_bind (wpAny_mkText (wpAny_bind (wpAny_attempt (wpAny_holding (wpAny_bind (l0.at (wpAny_bind (l1.at ?_))))))))
  show wpAny _ _ (if (onTheHeap (Value.ref D) && Value.builtin "BaseException.__getattribute__" == Value.builtin "object.__getattribute__") = true then _ else _) _ _ _
  rw [n1, if_neg Bool.false_ne_true]
  unfold getAttrByItsOwn hookBefore
  refine wpAny_bind ?_
  rw [if_pos (show onTheHeap (Value.ref D) = true from rfl)]
  refine l2.at (wpAny_bind (wpAny_attempt (wpAny_holding ?_)))
  unfold callGetattribute
  rw [n2, if_neg Bool.false_ne_true]
  unfold boundAndCalled
  rw [PySem.F.excAttr_ValueError.ga.bind (.ref x)]
  refine wpAny_bind (wpAny_pure ?_)
  show wpAny _ _ (call (.builtin "BaseException.__getattribute__") [.ref x, .str "__class__" tk]) _ _ _
  refine wpAny_call (codeAny_call_builtin PySem.F.excAttr_ValueError.ga.plain PySem.F.entry_bexc_ga ?_)
  refine @check_slot (model prog w) _ _ ⟨hp, gs, dw, tk + 1, os⟩ "BaseException.__getattribute__" "BaseException" "__getattribute__" (.ref x) [.str "__class__" tk] [] _ (by decide +kernel) (by decide +kernel) isB (PySem.F.args_bexc_ga (.ref x) (.str "__class__" tk)) ?_
  unfold Builtin.«object.__getattribute__»
  refine wpAny_bind (wpAny_of_eq (a := ((Value.ref x : Value), [Value.str "__class__" tk])) (by first | rfl | (simp only [slotArgs]; rfl)) ?_)
  refine wpAny_bind (wpAny_pure (wpAny_bind (l0.at (wpAny_bind (l3.at ?_)))))
  show wpAny _ _ (holding [Value.builtin "object.__class__"] (call (.builtin "getset_descriptor.__get__") [.builtin "object.__class__", .ref x, .ref D]) >>= ret) _ _ _
  refine wpAny_bind (wpAny_holding (wpAny_call (class_get (s := ⟨hp, gs, dw, tk + 1, os⟩) (ox := ox) (od := some oy) X J T.hm ?_)))
  refine wpAny_pure ?_
  show wpAny _ _ (handedOut (.ref D)) _ _ _
  rw [handedOut_of (v := .ref D) rfl]
  first
    | exact wpAny_pure (wpAny_pure goal)
    | exact wpAny_pure goal
    | exact wpAny_pure (wpAny_bind (wpAny_pure (wpAny_pure goal)))
theorem isT_of {M : Model} {h : Heap} (T : ExcC K D) (X : K.In h) : Looks M h (isType (.ref D)) true := by
  obtain ⟨cd, hc, _⟩ := any_some T.hd
  unfold clsIn at hc
  split at hc
  · rename_i c1 c2 c3 c4 ho
    intro A2 Q2 E2 s2 kp q
    unfold isType loadHead
    exact wpAny_bind (wpAny_loadPart (kp _ _ (X _ _ ho)) (wpAny_pure q))
  · cases hc
theorem kit_err (T : ExcC K D) : KitX K (.ref x) (.ref D) (fun h => ∃ oy, InstAt h x ox D (some oy)) where
  ty := fun _ _ _ ⟨_, J⟩ => J.type
  it := fun M h X _ => (isT_of T X)
  ne := (handS_kitx_exc (x := x) (ox := ox) T.hg T.hk T.hs T.hd T.ha T.hn T.ht T.hm).ne
  ca := fun X ⟨_, J⟩ k => class_of_err T X J k
end

section
variable {X : Cx} {W : WX} {xc : XC} {a D : Addr} {oe : Obj} {pn : List (Addr × Obj)} {K : PySem.W.Frag} {e : Expr} {pos p p2 : Pos}
/-- an own error with a dict -/
theorem call_isF {dd : Addr} (C : ExcC X.K D) (hz : Zc (.ref D) (some dd) oe) (hf : ∃ vs, oe.data = .fields vs) : CallR (X.suite a ((a, oe) :: pn)) (.builtin "isinstance") (fun xs H Q => ∃ fs, H dd = some (.xd fs) ∧ rIsE X.K D a xs H Q) := by
  intro pins s σ H xs us Q I r h
  obtain ⟨fs, hd, c, cv, b, rfl, hcv, e, q⟩ := h
  obtain ⟨u1, u2, rfl, rx, rt⟩ := vals2 r
  obtain rfl : u1 = Value.ref a := rx
  obtain rfl := hcv _ rt
  obtain ⟨hget, _⟩ := I.pin (a, oe) (List.mem_append.mpr (.inl List.mem_cons_self))
  obtain ⟨vs, hv⟩ := hf
  obtain ⟨mA, ⟨od, es, ep, ho, _⟩, _⟩ := (show ObjOk X.prog X.w H s.heap dd (.xd fs) from I.hok dd _ hd)
  obtain ⟨oc, o2, oda, osl⟩ := oe
  obtain ⟨h1, h2⟩ := hz
  dsimp only at h1 h2 hv
  subst h1 h2 hv
  exact PySem.W.kia_one (kit_err C) I.kIn ⟨od, hget, rfl, rfl, ho⟩ e (fun z => nomatch z) fun tk => ⟨.bl b, H, I.kept (t' := tk) fun _ _ z => z, rfl, q⟩
/-- a caught error: its object at a, its dict at dd, what the dict holds -/
def excS (K : PySem.W.Frag) (a dd : Addr) (fs : List (Str × PyData)) : Slot := .ext fun F v => v = .ref a ∧ ∃ vfs, F dd = some (.xd vfs) ∧ KVs K F fs vfs
theorem KVs.look {F : Hp} {f : Str} {d : PyData} : ∀ {fs : List (Str × PyData)} {vfs : List (Str × V)}, KVs K F fs vfs → fs.lookup f = some d → ∃ v, vfs.lookup f = some v ∧ Rep K F d v
  | [], _, _, e => by simp at e
  | (g, y) :: r, vfs, ⟨v, t, h1, h2, h3⟩, e => by
    subst h1
    simp only [List.lookup] at e ⊢
    by_cases z : (f == g) = true
    · simp only [z] at e ⊢; cases e; exact ⟨v, rfl, h2⟩
    · have z : (f == g) = false := by simpa using z
      simp only [z] at e ⊢; exact KVs.look h3 e
/-- isinstance(e, C) of the caught error; b the answer -/
def dIsE (K : PySem.W.Frag) (i : Nat) (a dd : Addr) (fs : List (Str × PyData)) (b : Bool) : DTE := fun ρ Q => ρ[i]? = some (excS K a dd fs) ∧ Q (.dat (.bool b)) ρ
theorem de_isE {i : Nat} {n x : Str} {C dd : Addr} {b : Bool} {fs : List (Str × PyData)} {np xp : Pos} (T : ExcC X.K D) (hz : Zc (.ref D) (some dd) oe) (hf : ∃ vs, oe.data = .fields vs) (hm : X.mg "isinstance" = none) (hx : X.mg x = some (.ref C)) (hb : PySem.W.kitOne X.K (.ref D) (.ref C) = some b)
    (hN : X.N[i]? = some n := by rfl) (hv : Vis X.env.scope n := by first | exact Or.inl rfl | exact Or.inr (Or.inl rfl) | exact Or.inr (Or.inr rfl)) (hd : (n == ("__debug__" : Str)) = false := by decide) (hcd : (n == ("__classdict__" : Str)) = false := by decide)
    (hg : Gl X "isinstance" := by rfl) (hgx : Gl X x := by rfl) (hdx : (x == ("__debug__" : Str)) = false := by decide) (hs : starEach [.Name n np, .Name x xp] X.env = (false, eval (.Name n np) X.env) :: starEach [.Name x xp] X.env := by rfl) (hs2 : starEach [.Name x xp] X.env = (false, eval (.Name x xp) X.env) :: starEach [] X.env := by rfl)
    (hpl : (backTo pos (starEach [.Name x xp] X.env)).any (·.1) = false := by rfl) :
    DE (X.suite a ((a, oe) :: pn)) W xc (.Call (.Name "isinstance" p) [.Name n np, .Name x xp] [] pos) (tCB (fun xs H Q => ∃ fs, H dd = some (.xd fs) ∧ rIsE X.K D a xs H Q) (tCons (tVar i) (tCons (tC (.ref C)) tNil))) (dIsE X.K i a dd fs b) := by
  refine ⟨pe_callB (X := X.suite a ((a, oe) :: pn)) (call_isF T hz hf) hg hm PyProof.Rows.boot_isinstance (pa_cons (pv (X := X.suite a ((a, oe) :: pn)) i hN hv hd hcd) (pa_cons (pe_glob (X := X.suite a ((a, oe) :: pn)) hgx hx rfl hdx) pa_nil hs2) hs) (by decide) (by decide) hs hpl, fun G ρ F σ H Q QQ hK _ I q k => ?_⟩
  obtain ⟨e0, q⟩ := q
  obtain ⟨v, s1, s2⟩ := I.at e0 (by unfold excS; rintro ⟨⟩)
  obtain ⟨rfl, vfs, h2, h3⟩ := s2 F (Same.refl F)
  refine ⟨_, s1, vfs, I.ex _ _ h2, .ref C, .ref C, b, rfl, (fun u hu => hu), hb, ?_⟩
  exact k _ _ ρ F H q I ⟨by show Rep _ _ _ _; simp only [Rep], fun z => by cases z⟩ Step.refl (Fresh.no rfl)
/-- e.f of the caught error -/
def dXf (K : PySem.W.Frag) (i : Nat) (a dd : Addr) (fs : List (Str × PyData)) (f : Str) : DTE := fun ρ Q => ρ[i]? = some (excS K a dd fs) ∧ withD (fs.lookup f) fun d => Q (.dat d) ρ
theorem de_xf {i : Nat} {n f : Str} {dd : Addr} {fs : List (Str × PyData)} {np : Pos} (T : XfC X.K D) (hno : PySem.W.findIn X.K (.ref D) f = some none) (hz : Zc (.ref D) (some dd) oe) (hf : ∃ vs, oe.data = .fields vs)
    (hN : X.N[i]? = some n := by rfl) (hv : Vis X.env.scope n := by first | exact Or.inl rfl | exact Or.inr (Or.inl rfl) | exact Or.inr (Or.inr rfl)) (hd : (n == ("__debug__" : Str)) = false := by decide) (hcd : (n == ("__classdict__" : Str)) = false := by decide)
    (hb : attributeBase (.Name n np) f X.env (eval (.Name n np) X.env) = eval (.Name n np) X.env := by rfl) :
    DE (X.suite a ((a, oe) :: pn)) W xc (.Attribute (.Name n np) f pos) (tXf a (.ref D) (some dd) D f (tVar i)) (dXf X.K i a dd fs f) := by
  refine ⟨pe_xf T hno hz hf (pv (X := X.suite a ((a, oe) :: pn)) i hN hv hd hcd) hb, fun G ρ F σ H Q QQ hK _ I q k => ?_⟩
  obtain ⟨e0, q⟩ := q
  obtain ⟨d, ed, q⟩ := q.out
  obtain ⟨v, s1, s2⟩ := I.at e0 (by unfold excS; rintro ⟨⟩)
  obtain ⟨rfl, vfs, h2, h3⟩ := s2 F (Same.refl F)
  obtain ⟨u, u1, u2⟩ := h3.look ed
  refine ⟨_, s1, rfl, rfl, dd, vfs, u, rfl, I.ex _ _ h2, u1, ?_⟩
  exact k _ _ ρ F H q I ⟨by show Rep _ _ _ _; rw [hK]; exact u2, fun z => by cases z⟩ Step.refl (Fresh.no rfl)
end

/-! ### raise C(e), C's own __init__ storing one field -/
/-- what such an __init__ promises -/
def spInit (C : Addr) (f : Str) : Sp := fun vs H Q _ => ∃ a y, vs = [.ref a, y] ∧ H a = some (exo a C none) ∧ ∀ dx, H dx = none → dx ≠ a → Q .non (upd (upd H dx (exd dx [(f, y)])) a (exo a C (some dx)))
section
variable {X : Cx} {W : WX} {xc : XC} {a b c e : Expr} {es : List Expr} {ua ub ue : TE} {ta tb te : DTE} {pos p p2 : Pos} {K : PySem.W.Frag} {C : Addr} {f : Str}
/-- def __init__(self, y): self.f = y -/
theorem init_fn {P : Program} {w : World} {mg : Str → Option Value} {base : Heap} {x qual : Str} {st : Stmt} {g : Addr} {fd : FuncData} {self y : Str} {k : Nat} {p1 p2 p3 p4 : Pos} (Fx : Fun K x qual st g fd) (S : FnScope [self, y] [self, y] (defScope st)) (hb : defBody st = [.Assign [.Attribute (.Name self p1) f p2] (.Name y p3) p4]) (T : OexC K C) (hno : PySem.W.findIn K (.ref C) f = some none)
    (h1 : (defScope st).names.lookup self = some .local) (h2 : (defScope st).names.lookup y = some .local) (d1 : (self == ("__debug__" : Str)) = false := by decide) (d2 : (self == ("__classdict__" : Str)) = false := by decide) (d3 : (y == ("__debug__" : Str)) = false := by decide) (d4 : (y == ("__classdict__" : Str)) = false := by decide) :
    FnOk P w K mg base CX0 (k + 1) g fd [self, y] (spInit C f) := by
  refine Fx.ok S (fun vs H Q E h => by obtain ⟨a, y, rfl, _⟩ := h; rfl) fun cdv A outer s H vs Q E hr h => ?_
  obtain ⟨a, y0, rfl, ha, q⟩ := h
  rw [hb]
  refine ⟨_, pss_one (ps_ost (pv 0 rfl (.inl h1) d1 d2) (pv 1 rfl (.inl h2) d3 d4) rfl), ?_⟩
  refine ⟨y0, rfl, .ref a, rfl, a, C, rfl, T, hno, .inl ⟨ha, fun dx hn ne => q dx hn ne⟩⟩
def dRaise (xc : XC) (C : Addr) (f : Str) (te : DTE) : DTS := fun _ ρ => te ρ fun r ρ1 => withDat (frz ρ1 r).1 fun y => xc C [(f, y)] (frz ρ1 r).2
theorem sim_raise (h : SimE K W xc ue te) : SimS K W xc (fun _ σ H => tMkO C (spInit C f) [] (tCons ue tNil) σ H fun cls d H' => W cls d σ H') (dRaise xc C f te) := by
  intro G ρ F σ H D DD hK hx I q k
  refine h G ρ F σ H _ _ hK hx I q fun v r ρ1 F1 H1 q I1 R1 e1 f1 => ?_
  obtain ⟨F2, I2, e2, n2, S2, o2, w2⟩ := I1.freezeP R1 e1 f1
  obtain ⟨y, ey, q⟩ := q.out
  rw [ey] at S2
  refine ⟨by show 1 ≤ 1000; decide, fun a ha => ⟨a, v, rfl, upd_same, fun dx hn ne => ⟨rfl, dx, [(f, v)], upd_same, ?_, ?_, ?_⟩⟩⟩
  · rw [upd_ne ne, upd_same]
  · rw [upd_ne ne] at hn; exact hn
  · have hdx : H1 dx = none := by rw [upd_ne ne] at hn; exact hn
    have eH : upd (del (upd (upd (upd H1 a (exo a C none)) dx (exd dx [(f, v)])) a (exo a C (some dx))) a) dx (.xd [(f, v)]) = upd H1 dx (.xd [(f, v)]) := by
      funext l
      by_cases l1 : l = dx
      · subst l1; rw [upd_same, upd_same]
      · rw [upd_ne l1, upd_ne l1]
        by_cases l2 : l = a
        · subst l2; rw [del_same, ha]
        · rw [del_ne l2, upd_ne l2, upd_ne l1, upd_ne l2]
    rw [eH]
    exact hx C [(f, y)] _ F2 σ _ dx [(f, v)] q (I2.alloc hdx) upd_same ⟨v, [], rfl, S2, rfl⟩
theorem ds_raise {x : Str} {fI : Addr} {k : Nat} {fd : FuncData} {ps : List Str} {p3 : Pos} (hc : X.calm = true) (tk : Takes X W) (T : OexC X.K C) (iC : PySem.W.findIn X.K (.ref C) "__init__" = some (some (.ref fI))) (tI : PySem.W.typeIn X.K (.ref fI) = some (.type "function"))
    (Fn : FnOk X.prog X.w X.K X.mg X.base CX0 k fI fd ps (spInit C f)) (hr : Room (k + 1) X.A) (hb : Binds X.K fd ps []) (hm : X.mg x = some (.ref C)) (he : DE X W xc e ue te) (hg : Gl X x := by rfl)
    (hdb : (x == ("__debug__" : Str)) = false := by decide) (hs : starEach [e] X.env = (false, eval e X.env) :: starEach [] X.env := by rfl) (hpl : (backTo p3 (starEach [] X.env)).any (·.1) = false := by rfl) :
    DS X W xc (.Raise (some (.Call (.Name x p) [e] [] p3)) none pos) (fun _ σ H => tMkO C (spInit C f) [] (tCons ue tNil) σ H fun cls d H' => W cls d σ H') (dRaise xc C f te) :=
  ⟨ps_raise hc tk (pmk_oex T iC tI Fn hr hb .nil pass0 hg hm (pa_cons he.p pa_nil hs) hdb hs hpl), sim_raise he.s⟩

/-- the frozen part at hand taken for the start's -/
abbrev Fr.at (G : Fr) (F : Hp) : Fr := ⟨G.K, G.b, F, G.H0⟩
theorem SlotOk.at {G : Fr} {F1 F H : Hp} {σ : L2.St} {s : Slot} {v : V} : SlotOk (G.at F1) F H σ s v ↔ SlotOk G F H σ s v := by cases s <;> exact Iff.rfl
theorem StOk.here {G : Fr} {ρ : List Slot} {F H : Hp} {σ : L2.St} (I : StOk G ρ F σ H) : StOk (G.at F) ρ F σ H :=
  ⟨I.len, fun i s h => (I.slot i s h).elim .inl fun ⟨v, h1, h2⟩ => .inr ⟨v, h1, SlotOk.at.mpr h2⟩, I.novw, I.inj, I.ex, Same.refl F, I.keep, fun l o h => .inl h, I.bag⟩
theorem StOk.back {G : Fr} {ρ ρ1 : List Slot} {F F1 H H1 : Hp} {σ σ1 : L2.St} (I : StOk G ρ F σ H) (J : StOk (G.at F) ρ1 F1 σ1 H1) : StOk G ρ1 F1 σ1 H1 :=
  ⟨J.len, fun i s h => (J.slot i s h).elim .inl fun ⟨v, h1, h2⟩ => .inr ⟨v, h1, SlotOk.at.mp h2⟩, J.novw, J.inj, J.ex, I.exF.trans J.exF, J.keep, fun l o h => (J.new l o h).elim (fun z => I.new l o z) .inr, J.bag⟩
theorem EndsOk.here {G : Fr} {ρ : List Slot} {F H : Hp} {σ : L2.St} {D : DEnds} {DD : Ends} (I : StOk G ρ F σ H) (k : EndsOk G F D DD) : EndsOk (G.at F) F D DD :=
  ⟨fun ρ' F' σ' H' n J e => k.nx ρ' F' σ' H' n (I.back J) e, fun v r ρ' F' σ' H' n J R hv e => k.rt v r ρ' F' σ' H' n (I.back J) ⟨SlotOk.at.mp R.1, R.2⟩ hv e, fun ρ' F' σ' H' n J e => k.bk ρ' F' σ' H' n (I.back J) e, fun ρ' F' σ' H' n J e => k.ct ρ' F' σ' H' n (I.back J) e⟩
/-! ### try: body, except x as n: suite; the body raises errors of one own class alone -/
def dTry (K : PySem.W.Frag) (C0 : Addr) (i : Nat) (t : XC → DTS) (h : Addr → Addr → List (Str × PyData) → DTS) : DTS := fun D ρ => t (fun C fs ρ1 => C = C0 ∧ ∀ a dd, h a dd fs { nx := fun ρ2 => D.nx (ρ2.set i .un), rt := D.rt, bk := fun ρ2 => D.bk (ρ2.set i .un), ct := fun ρ2 => D.ct (ρ2.set i .un) } (ρ1.set i (excS K a dd fs))) D ρ
def tsOf (C0 : Addr) (ts : Addr → Addr → TS) (a : Addr) (cls : Value) (d : Option Addr) : TS := match d with
  | some dd => fun D σ H => cls = .ref C0 ∧ ts a dd D σ H
  | none => fun _ _ _ => False
theorem StOk.unset {G : Fr} {ρ : List Slot} {F H : Hp} {σ : L2.St} (I : StOk G ρ F σ H) (j : Nat) : StOk G (ρ.set j .un) F (σ.set j none) H := by
  have other : ∀ (i : Nat) (s : Slot), (ρ.set j .un)[i]? = some s → s = .un ∨ (i ≠ j ∧ ρ[i]? = some s ∧ (σ.set j none)[i]? = σ[i]?) := fun i s h => by
    rw [List.getElem?_set] at h
    by_cases e : j = i
    · rw [if_pos e] at h
      split at h
      · cases h; exact .inl rfl
      · cases h
    · rw [if_neg e] at h; exact .inr ⟨fun z => e z.symm, h, List.getElem?_set_ne e⟩
  refine ⟨by rw [List.length_set, List.length_set]; exact I.len, fun i s h => ?_, fun i s h => ?_, fun i k s t l h1 h2 o1 o2 e1 e2 => ?_, I.ex, I.exF, I.keep, I.new, I.bag⟩
  · rcases other i s h with e | ⟨_, h, z⟩
    · exact .inl e
    · rcases I.slot i s h with q | ⟨v, q1, q2⟩
      · exact .inl q
      · exact .inr ⟨v, by rw [z]; exact q1, SlotOk.sig q2 (I.novw i s h)⟩
  · rcases other i s h with e | ⟨_, h, _⟩
    · subst e; rfl
    · exact I.novw i s h
  · rcases other i s h1 with e | ⟨_, h1, z1⟩
    · subst e; cases o1
    · rcases other k t h2 with e | ⟨_, h2, z2⟩
      · subst e; cases o2
      · rw [z1] at e1; rw [z2] at e2
        exact I.inj i k s t l h1 h2 o1 o2 e1 e2
/-- the error's dict joins the frozen part -/
theorem StOk.catch {G : Fr} {ρ : List Slot} {F H : Hp} {σ : L2.St} {dd a : Addr} {vfs : List (Str × V)} {fs : List (Str × PyData)} (I : StOk G ρ F σ H) (hd : H dd = some (.xd vfs)) (hk : KVs G.K F fs vfs) (i : Nat) : ∃ F', StOk G (ρ.set i (excS G.K a dd fs)) F' (σ.set i (some (.ref a))) H ∧ Same F F' := by
  have e : Same F (upd F dd (.xd vfs)) := fun l o h => by
    by_cases z : l = dd
    · subst z
      have y := I.ex _ _ h
      rw [hd] at y; cases y
      exact upd_same
    · rw [upd_ne z]; exact h
  have n : ∀ l o, upd F dd (.xd vfs) l = some o → F l = some o ∨ H l = none ∨ Imm o := fun l o h => by
    by_cases z : l = dd
    · subst z; rw [upd_same] at h; cases h; exact .inr (.inr (.xd _))
    · rw [upd_ne z] at h; exact .inl h
  have x : Same (upd F dd (.xd vfs)) H := fun l o h => by
    by_cases z : l = dd
    · subst z; rw [upd_same] at h; cases h; exact hd
    · rw [upd_ne z] at h; exact I.ex l o h
  have J := I.grow e x (fun l o h _ => h) n (I.bagKeep e x (fun l o h => h) n)
  refine ⟨_, J.set (r := excS G.K a dd fs) (v := .ref a) (i := i) ⟨fun F' e' => ⟨rfl, vfs, e' _ _ upd_same, KVs.mono (e.trans e') hk⟩, fun z => by unfold excS at z; cases z⟩ rfl, e⟩
theorem ds_try {i : Nat} {n x : Str} {C0 : Addr} {cv : Value} {body suite : List Stmt} {b₀ : Stmt} {np pos' : Pos} {tb : WX → TS} {ts : Addr → Addr → TS} {t : XC → DTS} {h : Addr → Addr → List (Str × PyData) → DTS} (hN : X.N.Nodup) (tk : Takes X W) (hc : Names X x cv) (hex : PySem.W.exmOne X.K (.ref C0) cv = some true)
    (hb : ∀ (W : WX) (pn : List (Addr × Obj)) (xe : Value → Shared → Prop) (xc : XC), Takes (X.tr pn xe) W → DSs (X.tr pn xe) W xc body (tb W) (t xc))
    (hsu : ∀ (a dd : Addr) (oe : Obj) (pn : List (Addr × Obj)), Zc (.ref C0) (some dd) oe → (∃ vs, oe.data = .fields vs) → ∀ fs, DSs (X.suite a ((a, oe) :: pn)) W0 xc0 (b₀ :: suite) (ts a dd) (h a dd fs))
    (hz : ∀ (a dd : Addr), ∃ oe, Zc (.ref C0) (some dd) oe ∧ ∃ vs, oe.data = .fields vs) (hs : X.stack = X.env :: X.outer := by rfl) (hf : X.env.frame = some X.env.locals := by rfl) (hi : X.N[i]? = some n := by rfl) (hln : X.env.kindOf n = some .local := by rfl) :
    DS X W xc (.Try body [.ExceptHandler (some (.Name x np)) (some n) (b₀ :: suite) pos'] [] [] pos) (fun D σ H => tb (wAs X.K cv i (tsOf C0 ts) W D) D σ H) (dTry X.K C0 i t h) := by
  refine ⟨ps_try_as hs hf hN hi hln hc tk (fun W' pn xe t1 t2 => (hb W' pn xe (fun _ _ _ => False) t1).p) fun a oe cls d pn hz hfs => ?_, fun G ρ F σ H D DD hK hx I q k => ?_⟩
  · cases d with
    | none => exact ⟨fun _ _ _ _ _ _ z => False.elim z⟩
    | some dd =>
      refine ⟨fun pins s σ H D I z => ?_⟩
      obtain ⟨rfl, z⟩ := z
      exact (hsu a dd oe pn hz hfs []).p.run pins s σ H D I z
  · have any : Nonempty (List (Addr × Obj)) := ⟨[]⟩
    -- the body's derivation, at the wish of the clause
    have key : ∀ (xc' : XC), SimS X.K (wAs X.K cv i (tsOf C0 ts) W DD) xc' (tb (wAs X.K cv i (tsOf C0 ts) W DD)) (t xc') := fun xc' => (hb _ [] (fun _ _ => True) xc' fun _ _ _ => trivial).s
    refine key _ (G.at F) ρ F σ H D DD hK (fun C fs ρ1 F1 σ1 H1 d vfs hq I1 hd hk => ?_) I.here q (k.here I)
    obtain ⟨rfl, hq⟩ := hq
    refine ⟨true, hex, fun _ a ha => ?_, fun z => by cases z⟩
    refine ⟨rfl, ?_⟩
    obtain ⟨oe, hz1, hz2⟩ := hz a d
    have e1 : Same F F1 := I1.exF
    obtain ⟨F2, I2, e2⟩ := (I.back I1).catch (a := a) hd hk i
    rw [hK] at I2
    have suite := (hsu a d oe [] hz1 hz2 fs).s
    refine suite G _ F2 _ H1 _ _ hK (fun _ _ _ _ _ _ _ _ z => z.elim) I2 (hq a d) ⟨fun ρ3 F3 σ3 H3 n I3 e3 => ?_, fun v r ρ3 F3 σ3 H3 q3 I3 R3 hv e3 => ?_, fun ρ3 F3 σ3 H3 n I3 e3 => ?_, fun ρ3 F3 σ3 H3 n I3 e3 => ?_⟩
    · exact k.nx _ F3 _ H3 n (I3.unset i) ((e1.trans e2).trans e3)
    · exact k.rt v r ρ3 F3 σ3 H3 q3 I3 R3 hv ((e1.trans e2).trans e3)
    · exact k.bk _ F3 _ H3 n (I3.unset i) ((e1.trans e2).trans e3)
    · exact k.ct _ F3 _ H3 n (I3.unset i) ((e1.trans e2).trans e3)
end
end DL

-- part DEq
set_option Elab.async false
set_option maxRecDepth 100000
set_option maxHeartbeats 400000
namespace DL
open PySem L2
open PySem.SeqAt (EqIn)

/-! ### two dicts that hold equal things in the same order are equal -/
section
variable {prog : Program} {w : World} {A : Around} {E : Value → Shared → Prop} {s : Shared}
theorem pairs_same {nm : String} {a b : Addr} {oa ob : Obj} {es fs : Array DictEntry} {ep fp : Nat} {Q : Bool → Shared → Prop} (na : (a == sysModules) = false) (nb : (b == sysModules) = false) (ga : s.heap.get? a = some oa) (gb : s.heap.get? b = some ob) (da : oa.data = .dict es ep) (db : ob.data = .dict fs fp) (hz : es.size = fs.size)
    (each : ∀ (i : Nat) (h1 : i < es.size) (h2 : i < fs.size), ∃ hsh k v, es[i] = ⟨hsh, k, v⟩ ∧ (∀ (E : Value → Shared → Prop) (P : Option Nat → Shared → Prop), P (some i) s → wpAny (model prog w) A (dictFind b k hsh) P E s) ∧ EqIn prog w A s v fs[i].val true)
    (goal : Q true s) : wpAny (model prog w) A (Builtin.Dict.samePairs nm a b) Q E s := by
  unfold Builtin.Dict.samePairs Builtin.Dict.showsAll
  rw [if_neg (by rw [na]; exact Bool.false_ne_true), if_neg (by rw [nb]; exact Bool.false_ne_true)]
  refine wpAny_bind (wpAny_pure (wpAny_bind (wpAny_pure (wpAny_bind (wpAny_dictEntries ga da ?_)))))
  dsimp only
  refine wpAny_bind (wpAny_dictEntries gb db ?_)
  rw [if_neg (by rw [hz]; simp)]
  refine wpAny_bind (wpAny_dictEpoch ga da (wpAny_bind ?_))
  rw [Std.Legacy.Range.forIn_eq_forIn_range']
  simp only [Std.Legacy.Range.size, Nat.sub_zero, Nat.add_sub_cancel, Nat.div_one]
  refine wpAny_forIn_list _ (fun rest q s' => s' = s ∧ q = (none, ()) ∧ ∃ i, rest = List.range' i (es.size - i) ∧ i ≤ es.size) _ ?_ ?_ _ _ ⟨rfl, rfl, 0, by simp, Nat.zero_le _⟩
  · rintro x rest q s' ⟨rfl, rfl, i, er, hi⟩
    have lt : i < es.size := Nat.lt_of_not_le fun ge => by
      rw [Nat.sub_eq_zero_of_le ge] at er; simp at er
    have cut : es.size - i = (es.size - (i + 1)) + 1 := by omega
    rw [cut, List.range'_succ] at er
    injection er with e1 e2
    subst e1
    obtain ⟨hsh, k, v, ee, hf, hv⟩ := each x lt (by omega)
    refine wpAny_bind (wpAny_dictEntries ga da ?_)
    rw [Array.getElem?_eq_getElem lt, ee]
    refine wpAny_bind (wpAny_holding (wpAny_bind (hf _ _ ?_)))
    refine wpAny_bind (wpAny_dictEntries gb db ?_)
    rw [Array.getElem?_eq_getElem (by omega : x < fs.size)]
    refine wpAny_holding (hv _ _ ?_)
    show wpAny _ _ (if (!true) = true then _ else _) _ _ _
    rw [if_neg (by decide)]
    refine wpAny_bind (wpAny_dictEpoch ga da ?_)
    rw [if_neg (by simp)]
    exact wpAny_pure ⟨rfl, rfl, x + 1, e2, lt⟩
  · rintro q s' ⟨rfl, rfl, _⟩
    exact wpAny_pure goal
theorem dicts_same {a b : Addr} {oa ob : Obj} {es fs : Array DictEntry} {ep fp : Nat} {Q : Value → Shared → Prop} (hu : A.units < cLine) (na : (a == sysModules) = false) (nb : (b == sysModules) = false) (ga : s.heap.get? a = some oa) (gb : s.heap.get? b = some ob) (ca : oa.ExactDict) (cb : ob.ExactDict) (da : oa.data = .dict es ep) (db : ob.data = .dict fs fp) (hz : es.size = fs.size)
    (each : ∀ (i : Nat) (h1 : i < es.size) (h2 : i < fs.size), ∃ hsh k v, es[i] = ⟨hsh, k, v⟩ ∧ (∀ (E : Value → Shared → Prop) (P : Option Nat → Shared → Prop), P (some i) s → wpAny (model prog w) A.in1 (dictFind b k hsh) P E s) ∧ EqIn prog w A.in1 s v fs[i].val true)
    (goal : Q (.bool true) s) : wpAny (model prog w) A (richCompare .Eq (.ref a) (.ref b)) Q E s := by
  have ta : s.TypeIs (.ref a) "dict" := ⟨oa, ga, ca.1⟩
  have tb : s.TypeIs (.ref b) "dict" := ⟨ob, gb, cb.1⟩
  refine wpAny_richCompare_same_room (op := .Eq) ta tb PySem.F.slot_dict_eq (wpAny_call_entry PySem.F.slot_dict_eq ta PySem.F.entry_dict_eq ?_ (PySem.F.args_dict_eq_2 _ _)) hu
  show wpAny _ _ (Builtin.Dict.dictSlotArgs "__eq__" ⟨[.ref a, .ref b], []⟩ >>= _) _ _ s
  refine wpAny_bind ?_
  unfold Builtin.Dict.dictSlotArgs
  refine wpAny_bind (wpAny_notOrdered_dict ta ?_)
  show wpAny _ _ (pure (Value.ref a, Value.ref b)) _ _ s
  refine wpAny_pure (wpAny_bind (wpAny_isInstance (T := "dict") tb PySem.F.sub_dict_dict ?_))
  simp only [Bool.not_true, Bool.false_eq_true, if_false]
  refine wpAny_bind (wpAny_pure (wpAny_bind (wpAny_pure (wpAny_bind (pairs_same na nb ga gb da db hz each ?_)))))
  exact wpAny_pure ⟨_, rfl, (fun x => nomatch x), goal⟩
end

/-! ### a value reads as equal to itself -/
theorem paired_at {α β : Type} {F : α → β → Prop} : ∀ {l : List α} {m : List β} {i : Nat} {x : α} {y : β}, Paired F l m → l[i]? = some x → m[i]? = some y → F x y
  | _, _, i, x, y, .nil, h, _ => by simp at h
  | _, _, 0, x, y, .cons h _, h1, h2 => by simp at h1 h2; subst h1 h2; exact h
  | _, _, i + 1, x, y, .cons _ t, h1, h2 => paired_at (i := i) t (by simpa using h1) (by simpa using h2)
theorem vals_get {xs : List V} {us : List Value} {i : Nat} {u : Value} (r : Vals xs us) (h : us[i]? = some u) : ∃ x, xs[i]? = some x ∧ RelV x u := by
  have hl := r.length
  have hi := (List.getElem?_eq_some_iff.mp h).1
  have e : xs[i]? = some (xs[i]'(by omega)) := List.getElem?_eq_getElem (by omega)
  exact ⟨_, e, paired_at r e h⟩

mutual
def okE : PyData → Bool
  | .list ds => okEs ds
  | .tuple ds => okEs ds
  | .dict kvs => (kvsT kvs).isSome && okKv kvs
  | _ => true
def okEs : List PyData → Bool
  | [] => true
  | d :: ds => okE d && okEs ds
def okKv : List (PyData × PyData) → Bool
  | [] => true
  | (_, d) :: r => okE d && okKv r
end
theorem kvs_of_repK {K : PySem.W.Frag} {F : Hp} {kvs : List (PyData × PyData)} {ps : List (Key × V)} (e : (kvsT kvs).isSome = true) (h : RepK K F kvs ps) : kvs = [] ∧ ps = [] := by
  cases kvs with
  | nil => exact ⟨rfl, by simpa only [RepK] using h⟩
  | cons p r =>
    obtain ⟨k, d⟩ := p
    simp only [RepK] at h
    obtain ⟨q, _, _, _, ek, _⟩ := h
    cases k <;> first | cases e | (cases q <;> cases ek)
theorem KVs.keys {κ : Type} {K : PySem.W.Frag} {F : Hp} : ∀ {t : List (κ × PyData)} {ps : List (κ × V)}, KVs K F t ps → ps.map (·.1) = t.map (·.1)
  | [], _, h => by have h : _ = [] := h; subst h; rfl
  | (q, d) :: r, ps, ⟨v, t, h1, h2, h3⟩ => by subst h1; rw [List.map_cons, List.map_cons, KVs.keys h3]
theorem kvsT_snd : ∀ {kvs : List (PyData × PyData)} {t : List (List Key × PyData)}, kvsT kvs = some t → t.map (·.2) = kvs.map (·.2)
  | [], _, h => by cases h; rfl
  | (.tuple es, d) :: r, t, h => by
    simp only [kvsT] at h
    cases z : keysD es with
    | none => rw [z] at h; cases h
    | some k2 =>
      cases z2 : kvsT r with
      | none => rw [z, z2] at h; cases h
      | some t2 => rw [z, z2] at h; cases h; rw [List.map_cons, List.map_cons, kvsT_snd z2]
  | (.none, _) :: _, _, h => by cases h
  | (.bool _, _) :: _, _, h => by cases h
  | (.int _, _) :: _, _, h => by cases h
  | (.str _, _) :: _, _, h => by cases h
  | (.list _, _) :: _, _, h => by cases h
  | (.dict _, _) :: _, _, h => by cases h
section
variable {X : Cx} {pins : List (Addr × Obj)} {σ : L2.St} {H : Hp} {s : Shared}
theorem eqIn_self {A : Around} {P : Program} {w : World} {v : Value} : EqIn P w A s v v true := (SeqAt.EqAt.same v).inModel P w
theorem eqIn_of {A : Around} {P : Program} {w : World} {a b : Addr} (h : a ≠ b → ∀ (E Q : Value → Shared → Prop), Q (.bool true) s → wpAny (model P w) A (richCompare .Eq (.ref a) (.ref b)) Q E s) : EqIn P w A s (.ref a) (.ref b) true := by
  by_cases e : a = b
  · subst e; exact eqIn_self
  · exact SeqAt.EqIn.of_refs e (h e)
def isRefD : PyData → Bool
  | .list _ => true
  | .tuple _ => true
  | .dict _ => true
  | _ => false
def SameAt (P : Program) (w : World) (A : Around) (s : Shared) (d : PyData) (u v : Value) : Prop := EqIn P w A s u v true ∧ (isRefD d = true → ∀ (E Q : Value → Shared → Prop), Q (.bool true) s → wpAny (model P w) A (richCompare .Eq u v) Q E s)
theorem sameAt_of {A : Around} {P : Program} {w : World} {d : PyData} {a b : Addr} (h : ∀ (E Q : Value → Shared → Prop), Q (.bool true) s → wpAny (model P w) A (richCompare .Eq (.ref a) (.ref b)) Q E s) : SameAt P w A s d (.ref a) (.ref b) := ⟨eqIn_of fun _ => h, fun _ => h⟩
theorem all_true (n : Nat) : (List.range n).all (fun _ => true) = true := by simp
/-- values of a dict, one with one -/
def EqVs (P : Program) (w : World) (A : Around) (s : Shared) (xs ys : List V) : Prop := ∀ (i : Nat) (x y : V) (u v : Value), xs[i]? = some x → ys[i]? = some y → RelV x u → RelV y v → EqIn P w A s u v true
mutual
theorem Rep.same (I : Inv X pins σ H s) : ∀ (d : PyData) (x y : V) (u v : Value) (A : Around), okE d = true → A.units + d.depth < cLine → Rep X.K H d x → Rep X.K H d y → RelV x u → RelV y v → SameAt X.prog X.w A s d u v
  | .none, x, y, u, v, A, _, _, h1, h2, r1, r2 => by
    simp only [Rep] at h1 h2; subst h1 h2; cases r1; cases r2
    exact ⟨eqIn_self, fun z => by cases z⟩
  | .bool b, x, y, u, v, A, _, _, h1, h2, r1, r2 => by
    simp only [Rep] at h1 h2; subst h1 h2; cases r1; cases r2
    exact ⟨eqIn_self, fun z => by cases z⟩
  | .int i, x, y, u, v, A, _, _, h1, h2, r1, r2 => by
    simp only [Rep] at h1 h2; subst h1 h2; obtain ⟨t, rfl⟩ := r1; obtain ⟨t', rfl⟩ := r2
    have := (SeqAt.EqAt.int_int (A := A) (s := s) i t i t').inModel X.prog X.w
    rw [beq_self_eq_true] at this
    exact ⟨this, fun z => by cases z⟩
  | .str z, x, y, u, v, A, _, _, h1, h2, r1, r2 => by
    simp only [Rep] at h1 h2; subst h1 h2; obtain ⟨t, rfl⟩ := r1; obtain ⟨t', rfl⟩ := r2
    have := (SeqAt.EqAt.str_str (A := A) (s := s) z t z t').inModel X.prog X.w
    rw [beq_self_eq_true] at this
    exact ⟨this, fun z => by cases z⟩
  | .list ds, x, y, u, v, A, ok, hu, h1, h2, r1, r2 => by
    simp only [Rep] at h1 h2
    obtain ⟨a, xs, rfl, g1, k1⟩ := h1
    obtain ⟨b, ys, rfl, g2, k2⟩ := h2
    cases r1; cases r2
    simp only [PyData.depth] at hu
    simp only [okE] at ok
    obtain ⟨is, rv, pl, _⟩ := I.list (SqL.of g1)
    obtain ⟨js, rw', pm, _⟩ := I.list (SqL.of g2)
    have l1 := k1.length; have l2 := k2.length; have m1 := rv.length; have m2 := rw'.length
    have each := Reps.same I ds xs ys A.in1 ok (by show A.units + 1 + _ < cLine; omega) k1 k2
    refine sameAt_of fun E Q hq => SeqAt.rcIn_lists pl.isList pm.isList (e := fun _ => true) (by rw [List.size_toArray, List.size_toArray]; omega) (by omega) (fun j h1 h2 => ?_) (by rw [all_true]; exact hq)
    have h1' : j < is.length := by simpa using h1
    have h2' : j < js.length := by simpa using h2
    obtain ⟨x, hx, rx⟩ := vals_get rv (List.getElem?_eq_getElem h1')
    obtain ⟨y, hy, ry⟩ := vals_get rw' (List.getElem?_eq_getElem h2')
    simpa using each j x y _ _ hx hy rx ry
  | .tuple ds, x, y, u, v, A, ok, hu, h1, h2, r1, r2 => by
    simp only [Rep] at h1 h2
    obtain ⟨a, xs, rfl, g1, k1⟩ := h1
    obtain ⟨b, ys, rfl, g2, k2⟩ := h2
    cases r1; cases r2
    simp only [PyData.depth] at hu
    simp only [okE] at ok
    obtain ⟨is, rv, pl, _⟩ := I.tuple (SqT.of g1)
    obtain ⟨js, rw', pm, _⟩ := I.tuple (SqT.of g2)
    have l1 := k1.length; have l2 := k2.length; have m1 := rv.length; have m2 := rw'.length
    have each := Reps.same I ds xs ys A.in1 ok (by show A.units + 1 + _ < cLine; omega) k1 k2
    refine sameAt_of fun E Q hq => SeqAt.rcIn_tuples pl pm (e := fun _ => true) (by omega) (fun j h1 h2 => ?_) ?_
    · have h1' : j < is.length := by simpa using h1
      have h2' : j < js.length := by simpa using h2
      obtain ⟨x, hx, rx⟩ := vals_get rv (List.getElem?_eq_getElem h1')
      obtain ⟨y, hy, ry⟩ := vals_get rw' (List.getElem?_eq_getElem h2')
      simpa using each j x y _ _ hx hy rx ry
    · have e : (is.toArray.size == js.toArray.size) = true := by rw [List.size_toArray, List.size_toArray, beq_iff_eq]; omega
      rw [all_true, e]; exact hq
  | .dict kvs, x, y, u, v, A, ok, hu, h1, h2, r1, r2 => by
    simp only [Rep] at h1 h2
    obtain ⟨a, rfl, g1⟩ := h1
    obtain ⟨b, rfl, g2⟩ := h2
    cases r1; cases r2
    simp only [PyData.depth] at hu
    simp only [okE, Bool.and_eq_true] at ok
    obtain ⟨ok1, ok2⟩ := ok
    -- the objects
    have raw : ∀ {c : Addr}, ((∃ ps, H c = some (.dK ps) ∧ RepK X.K H kvs ps) ∨ ∃ ps, H c = some (.dT ps) ∧ RepT X.K H kvs ps) → (kvs = [] ∧ (c == sysModules) = false ∧ ∃ o ep, s.heap.get? c = some o ∧ o.ExactDict ∧ o.data = .dict #[] ep) ∨
        ∃ ps, RepT X.K H kvs ps ∧ (c == sysModules) = false ∧ ∃ xs, KT H ps xs ∧ s.heap.DictOfH (tupleKind (mixKind X.prog X.w)) c xs := fun {c} g => by
      rcases g with ⟨ps, p1, p2⟩ | ⟨ps, p1, p2⟩
      · obtain ⟨rfl, rfl⟩ := kvs_of_repK ok1 p2
        obtain ⟨_, hd, vs, rel, o, es, ep, ho, hx, hdat, _, hp, _⟩ := dk_rd I.hok (Rd.of p1)
        cases rel
        have : es.size = 0 := by have := hp.length; simpa using this
        have : es = #[] := Array.eq_empty_of_size_eq_zero this
        subst this
        exact .inl ⟨rfl, hd, o, ep, ho, hx, hdat⟩
      · obtain ⟨_, hd, xs, rel, dd⟩ := dt_rd I.hok (Rd.of p1)
        exact .inr ⟨ps, p2, hd, xs, rel, dd⟩
    have nilT : ∀ {c : Addr} {ps : List (List Key × V)}, kvs = [] → RepT X.K H kvs ps → (∃ xs, KT H ps xs ∧ s.heap.DictOfH (tupleKind (mixKind X.prog X.w)) c xs) → ∃ o ep, s.heap.get? c = some o ∧ o.ExactDict ∧ o.data = .dict #[] ep := fun {c ps} e p2 q => by
      subst e
      simp only [RepT] at p2
      subst p2
      obtain ⟨xs, rel, o, es, ep, ho, hx, hdat, hes, _⟩ := q
      cases rel
      have : es = #[] := by
        obtain ⟨l⟩ := es
        simpa using hes
      subst this
      exact ⟨o, ep, ho, hx, hdat⟩
    refine sameAt_of fun E Q hq => ?_
    have empty : kvs = [] → (∃ o ep, s.heap.get? a = some o ∧ o.ExactDict ∧ o.data = .dict #[] ep) → (∃ o ep, s.heap.get? b = some o ∧ o.ExactDict ∧ o.data = .dict #[] ep) → (a == sysModules) = false → (b == sysModules) = false → wpAny (model X.prog X.w) A (richCompare .Eq (.ref a) (.ref b)) Q E s := fun _ ⟨oa, ea, q1, q2, q3⟩ ⟨ob, eb, q4, q5, q6⟩ na nb =>
      dicts_same (by omega) na nb q1 q4 q2 q5 q3 q6 rfl (fun i h1 _ => absurd h1 (Nat.not_lt_zero _)) hq
    rcases raw g1 with ⟨e1, na, qa⟩ | ⟨ps, p1, na, qa⟩
    · rcases raw g2 with ⟨_, nb, qb⟩ | ⟨ps', p2, nb, qb⟩
      · exact empty e1 qa qb na nb
      · exact empty e1 qa (nilT e1 p2 qb) na nb
    · rcases raw g2 with ⟨e2, nb, qb⟩ | ⟨ps', p2, nb, qb⟩
      · exact empty e2 (nilT e2 p1 qa) qb na nb
      · obtain ⟨t, et⟩ := Option.isSome_iff_exists.mp ok1
        have k1 := kvsT_rep et p1
        have k2 := kvsT_rep et p2
        have each := RepT.same I kvs ps ps' A.in1 ok2 (by show A.units + 1 + _ < cLine; omega) p1 p2
        obtain ⟨xs, rel, oa, es, ep, ho, hx, hdat, hes, his, hn⟩ := qa
        obtain ⟨ys, rel', ob, fs, fp, ho', hx', hdat', hfs, his', hn'⟩ := qb
        have s1 : es.size = xs.length := size_of_entries hes
        have s2 : fs.size = ys.length := size_of_entries hfs
        have q1 := Paired.length rel; have q2 := Paired.length rel'
        have q3 := k1.length; have q4 := k2.length
        refine dicts_same (by omega) na nb ho ho' hx hx' hdat hdat' (by omega) (fun i h1 h2 => ?_) hq
        have i1 : i < xs.length := by omega
        have i2 : i < ys.length := by omega
        have i3 : i < ps.length := by omega
        have i4 : i < ps'.length := by omega
        have en : es[i] = entryOfKey (tupleKind (mixKind X.prog X.w)) xs[i] := by
          have := entry_at hes i
          rw [Array.getElem?_eq_getElem h1, List.getElem?_eq_getElem i1] at this
          simpa using this
        have fn : fs[i] = entryOfKey (tupleKind (mixKind X.prog X.w)) ys[i] := by
          have := entry_at hfs i
          rw [Array.getElem?_eq_getElem h2, List.getElem?_eq_getElem i2] at this
          simpa using this
        obtain ⟨z1, z2, z3⟩ := (paired_at rel (i := i) (x := ps[i]) (y := xs[i]) (List.getElem?_eq_getElem i3) (List.getElem?_eq_getElem i1))
        obtain ⟨y1, y2, y3⟩ := (paired_at rel' (i := i) (x := ps'[i]) (y := ys[i]) (List.getElem?_eq_getElem i4) (List.getElem?_eq_getElem i2))
        have kk : ps[i].1 = ps'[i].1 := by
          have e : ps.map (·.1) = ps'.map (·.1) := k1.keys.trans k2.keys.symm
          have := congrArg (fun l => l[i]?) e
          simpa [List.getElem?_map, List.getElem?_eq_getElem i3, List.getElem?_eq_getElem i4] using this
        refine ⟨_, _, _, en, fun E P hP => ?_, ?_⟩
        · refine wpAny_dictFind_heap (knd := tupleKind (mixKind X.prog X.w)) (xs := ys) (by show A.units + 1 < cLine; omega) (his _ (List.getElem_mem i1)) ho' hdat' hfs his' hn' (fun hno => absurd (show ys[i]? = some (xs[i].1, ys[i].2) from ?_) (hno i _)) fun j p hj => ?_
          · rw [List.getElem?_eq_getElem i2, ← z1, kk, y1]
          · have e0 : ys[i]? = some (xs[i].1, ys[i].2) := by rw [List.getElem?_eq_getElem i2, ← z1, kk, y1]
            have : j = i := idxH_unique hn' hj e0
            subst this
            exact hP
        · have := each i ps[i].2 ps'[i].2 xs[i].2.2 ys[i].2.2 (by rw [List.getElem?_map, List.getElem?_eq_getElem i3]; rfl) (by rw [List.getElem?_map, List.getElem?_eq_getElem i4]; rfl) z3 y3
          rw [fn]
          exact this
theorem Reps.same (I : Inv X pins σ H s) : ∀ (ds : List PyData) (xs ys : List V) (A : Around), okEs ds = true → A.units + PyData.depthAll ds < cLine → Reps X.K H ds xs → Reps X.K H ds ys → EqVs X.prog X.w A s xs ys
  | [], xs, ys, A, _, _, h1, h2 => by
    simp only [Reps] at h1 h2; subst h1 h2
    intro i x y u v e; simp at e
  | d :: ds, xs, ys, A, ok, hu, h1, h2 => by
    simp only [Reps] at h1 h2
    obtain ⟨x0, xs', rfl, a1, a2⟩ := h1
    obtain ⟨y0, ys', rfl, b1, b2⟩ := h2
    simp only [okEs, Bool.and_eq_true] at ok
    simp only [PyData.depthAll] at hu
    intro i x y u v e1 e2 r1 r2
    cases i with
    | zero =>
      simp at e1 e2
      subst e1 e2
      exact (Rep.same I d _ _ u v A ok.1 (by omega) a1 b1 r1 r2).1
    | succ i => exact Reps.same I ds xs' ys' A ok.2 (by omega) a2 b2 i x y u v (by simpa using e1) (by simpa using e2) r1 r2
theorem RepT.same (I : Inv X pins σ H s) : ∀ (kvs : List (PyData × PyData)) (xs ys : List (List Key × V)) (A : Around), okKv kvs = true → A.units + PyData.depthKv kvs < cLine → RepT X.K H kvs xs → RepT X.K H kvs ys → EqVs X.prog X.w A s (xs.map (·.2)) (ys.map (·.2))
  | [], xs, ys, A, _, _, h1, h2 => by
    simp only [RepT] at h1 h2; subst h1 h2
    intro i x y u v e; simp at e
  | (k, d) :: ds, xs, ys, A, ok, hu, h1, h2 => by
    simp only [RepT] at h1 h2
    obtain ⟨q0, x0, xs', rfl, _, a1, a2⟩ := h1
    obtain ⟨p0, y0, ys', rfl, _, b1, b2⟩ := h2
    simp only [okKv, Bool.and_eq_true] at ok
    simp only [PyData.depthKv] at hu
    intro i x y u v e1 e2 r1 r2
    cases i with
    | zero =>
      simp at e1 e2
      subst e1 e2
      exact (Rep.same I d _ _ u v A ok.1 (by omega) a1 b1 r1 r2).1
    | succ i => exact RepT.same I ds xs' ys' A ok.2 (by omega) a2 b2 i x y u v (by simpa using e1) (by simpa using e2) r1 r2
end
end
end DL

-- part DRepr
set_option Elab.async false
set_option maxRecDepth 100000
set_option maxHeartbeats 400000
namespace DL
open PySem L2
mutual
def noList : PyData → Bool
  | .list _ => false
  | .tuple ds => noLists ds
  | .dict kvs => noListKv kvs
  | _ => true
def noLists : List PyData → Bool
  | [] => true
  | d :: ds => noList d && noLists ds
def noListKv : List (PyData × PyData) → Bool
  | [] => true
  | (_, d) :: r => noList d && noListKv r
end
section
variable {X : Cx} {pins : List (Addr × Obj)} {σ : L2.St} {H : Hp} {s : Shared}
theorem key_reads (I : Inv X pins σ H s) {q : Addr} {k : List Key} (h : H q = some (.tup (k.map kV))) : Reads s.heap (.ref q) (tkeyD k) [] := by
  obtain ⟨its, rv, ⟨o, ho, hc, n, hd⟩, _⟩ := I.tuple (SqT.of h)
  have all : ∀ {k : List Key} {its : List Value}, Vals (k.map kV) its → ReadsAll s.heap its (k.map keyD) [] := by
    intro k
    induction k with
    | nil => intro its r; rw [List.map_nil] at r; cases r; exact .nil
    | cons a k ih =>
      intro its r
      rw [List.map_cons] at r
      cases r with
      | @cons _ u _ us r1 r2 =>
        have : Reads s.heap u (keyD a) [] := by
          cases a with
          | inl i => obtain ⟨t, e⟩ := r1; subst e; exact .int i t
          | inr x => obtain ⟨t, e⟩ := r1; subst e; exact .str x t
        exact ReadsAll.cons this (ih r2)
  exact .tuple ho hc hd (by simpa using all rv)
mutual
theorem Rep.reads (I : Inv X pins σ H s) : ∀ (d : PyData) (v : V) (u : Value), okE d = true → Rep X.K H d v → RelV v u → ∃ as, Reads s.heap u d as ∧ (noList d = true → ∀ a ∈ as, (a == sysModules) = false)
  | .none, v, u, _, h, r => by simp only [Rep] at h; subst h; cases r; exact ⟨_, .none, fun _ a h => nomatch h⟩
  | .bool b, v, u, _, h, r => by simp only [Rep] at h; subst h; cases r; exact ⟨_, .bool b, fun _ a h => nomatch h⟩
  | .int i, v, u, _, h, r => by simp only [Rep] at h; subst h; obtain ⟨t, rfl⟩ := r; exact ⟨_, .int i t, fun _ a h => nomatch h⟩
  | .str z, v, u, _, h, r => by simp only [Rep] at h; subst h; obtain ⟨t, rfl⟩ := r; exact ⟨_, .str z t, fun _ a h => nomatch h⟩
  | .list ds, v, u, ok, h, r => by
    simp only [Rep] at h
    obtain ⟨a, vs, rfl, h2, h3⟩ := h
    cases r
    simp only [okE] at ok
    obtain ⟨its, rv, ⟨o, n, ho, hc, _, hd⟩, _⟩ := I.list (SqL.of h2)
    obtain ⟨as, hr, _⟩ := Reps.reads I ds vs its ok h3 rv
    exact ⟨_, .list ho hc hd (by simpa using hr), fun z => by simp [noList] at z⟩
  | .tuple ds, v, u, ok, h, r => by
    simp only [Rep] at h
    obtain ⟨a, vs, rfl, h2, h3⟩ := h
    cases r
    simp only [okE] at ok
    obtain ⟨its, rv, ⟨o, ho, hc, n, hd⟩, _⟩ := I.tuple (SqT.of h2)
    obtain ⟨as, hr, hn⟩ := Reps.reads I ds vs its ok h3 rv
    exact ⟨_, .tuple ho hc hd (by simpa using hr), fun z => hn (by simpa only [noList] using z)⟩
  | .dict kvs, v, u, ok, h, r => by
    simp only [Rep] at h
    obtain ⟨a, rfl, g⟩ := h
    cases r
    simp only [okE, Bool.and_eq_true] at ok
    rcases g with ⟨ps, p1, p2⟩ | ⟨ps, p1, p2⟩
    · obtain ⟨rfl, rfl⟩ := kvs_of_repK ok.1 p2
      obtain ⟨_, hd, vs, rel, o, es, ep, ho, hx, hdat, _, hp, _⟩ := dk_rd I.hok (Rd.of p1)
      cases rel
      have : es.size = 0 := by have := hp.length; simpa using this
      have : es = #[] := Array.eq_empty_of_size_eq_zero this
      subst this
      exact ⟨_, Reads.dict (as := []) (bs := []) ho hx.1 hdat ReadsAll.nil ReadsAll.nil, fun _ b hb => by
        have : b = a := by simpa using hb
        subst this; exact hd⟩
    · obtain ⟨_, hd, xs, rel, o, es, ep, ho, hx, hdat, hes, _⟩ := dt_rd I.hok (Rd.of p1)
      obtain ⟨bs, hk, hv, hn⟩ := RepT.reads I kvs ps xs ok.2 p2 rel
      refine ⟨_, Reads.dict (as := []) (bs := bs) ho hx.1 hdat ?_ ?_, fun z b hb => ?_⟩
      · rw [hes, List.map_map]; exact hk
      · rw [hes, List.map_map]; exact hv
      · rcases List.mem_cons.mp (by simpa using hb) with e | hb
        · subst e; exact hd
        · exact hn (by simpa only [noList] using z) b hb
theorem Reps.reads (I : Inv X pins σ H s) : ∀ (ds : List PyData) (vs : List V) (us : List Value), okEs ds = true → Reps X.K H ds vs → Vals vs us → ∃ as, ReadsAll s.heap us ds as ∧ (noLists ds = true → ∀ a ∈ as, (a == sysModules) = false)
  | [], vs, us, _, h, r => by simp only [Reps] at h; subst h; cases r; exact ⟨_, .nil, fun _ a h => nomatch h⟩
  | d :: ds, vs, us, ok, h, r => by
    simp only [Reps] at h
    obtain ⟨v, r', rfl, h1, h2⟩ := h
    simp only [okEs, Bool.and_eq_true] at ok
    cases r with
    | cons r1 r2 =>
      obtain ⟨as, q1, n1⟩ := Rep.reads I d v _ ok.1 h1 r1
      obtain ⟨bs, q2, n2⟩ := Reps.reads I ds r' _ ok.2 h2 r2
      refine ⟨_, .cons q1 q2, fun z a ha => ?_⟩
      simp only [noLists, Bool.and_eq_true] at z
      rcases List.mem_append.mp ha with ha | ha
      · exact n1 z.1 a ha
      · exact n2 z.2 a ha
theorem RepT.reads (I : Inv X pins σ H s) : ∀ (kvs : List (PyData × PyData)) (ps : List (List Key × V)) (xs : List (List Key × Addr × Value)), okKv kvs = true → RepT X.K H kvs ps → KT H ps xs →
    ∃ bs, ReadsAll s.heap (xs.map ((·.key) ∘ entryOfKey (tupleKind (mixKind X.prog X.w)))) (kvs.map (·.1)) [] ∧ ReadsAll s.heap (xs.map ((·.val) ∘ entryOfKey (tupleKind (mixKind X.prog X.w)))) (kvs.map (·.2)) bs ∧ (noListKv kvs = true → ∀ a ∈ bs, (a == sysModules) = false)
  | [], ps, xs, _, h, r => by simp only [RepT] at h; subst h; cases r; exact ⟨_, .nil, .nil, fun _ a h => nomatch h⟩
  | (k, d) :: kvs, ps, xs, ok, h, r => by
    simp only [RepT] at h
    obtain ⟨q, v, t, rfl, ek, h1, h2⟩ := h
    simp only [okKv, Bool.and_eq_true] at ok
    cases r with
    | @cons _ x _ xs' r1 r2 =>
      obtain ⟨z1, z2, z3⟩ := r1
      obtain ⟨as, q1, n1⟩ := Rep.reads I d v _ ok.1 h1 z3
      obtain ⟨bs, q2, q3, n2⟩ := RepT.reads I kvs t xs' ok.2 h2 r2
      refine ⟨_, ?_, ReadsAll.cons q1 q3, fun z a ha => ?_⟩
      · have := ReadsAll.cons (show Reads s.heap (.ref x.2.1) k [] by rw [ek]; exact key_reads I z2) q2
        exact this
      · simp only [noListKv, Bool.and_eq_true] at z
        rcases List.mem_append.mp ha with ha | ha
        · exact n1 z.1 a ha
        · exact n2 z.2 a ha
end
end
end DL

-- part DG
set_option Elab.async false
set_option maxRecDepth 100000
set_option maxHeartbeats 400000
namespace DL
open PySem L2

/-! ### == of a value and one that reads alike, repr -/
section
variable {K : PySem.W.Frag}
def rSame (K : PySem.W.Frag) : R2 := fun x y H Q => ∃ d, (isRefD d = true ∧ okE d = true ∧ d.depth ≤ 50) ∧ Rep K H d x ∧ Rep K H d y ∧ Q (.bl true) H
theorem op_same {X : Cx} (hu : X.A.units + 64 < cLine) : OpR X (compareOp .Eq) (rSame X.K) := by
  intro pins s σ H x y v u Q I rx ry h
  obtain ⟨d, ⟨h0, h1, h2⟩, hx, hy, q⟩ := h
  have e := (Rep.same I _ _ _ v u X.A h1 (by omega) hx hy rx ry).2 h0 X.xe (EP X pins σ Q) ⟨.bl true, H, I, rfl, q⟩
  exact e
def oSame (d e : PyData) (q : Slot → Prop) : Prop := d = e ∧ (isRefD d = true ∧ okE d = true ∧ d.depth ≤ 50) ∧ q (.dat (.bool true))
theorem od_same : OpD K (rSame K) oSame := fun F H x y dx dy q QQ e hx hy o k => by
  obtain ⟨rfl, h, o⟩ := o
  exact ⟨dx, h, hx.rep e, hy.rep e, k _ _ _ o out_bl⟩
/-- repr of a list, a tuple, a dict -/
def reprOk (d : PyData) : Prop := isRefD d = true ∧ okE d = true ∧ d.depth ≤ 50 ∧ d.showable = true ∧ (d.hasDict = true → noList d = true) ∧ d.shown.length ≤ 1000000
def rRepr (K : PySem.W.Frag) : List V → Hp → VK → Prop := fun xs H Q => ∃ d v, xs = [v] ∧ reprOk d ∧ Rep K H d v ∧ Q (.str d.shown) H
theorem rep_ref {H : Hp} {d : PyData} {v : V} (h : Rep K H d v) (z : isRefD d = true) : ∃ a, v = .ref a := by
  cases d with
  | list ds => simp only [Rep] at h; obtain ⟨a, _, rfl, _⟩ := h; exact ⟨a, rfl⟩
  | tuple ds => simp only [Rep] at h; obtain ⟨a, _, rfl, _⟩ := h; exact ⟨a, rfl⟩
  | dict ds => simp only [Rep] at h; obtain ⟨a, rfl, _⟩ := h; exact ⟨a, rfl⟩
  | _ => cases z
theorem cr_repr {X : Cx} (hg : X.A.guards = some []) (hu : X.A.units + 64 < cLine) : CallR X (.builtin "repr") (rRepr X.K) := by
  intro pins s σ H xs us Q I r h
  obtain ⟨d, v, rfl, ⟨h0, h1, h2, h3, h4, h5⟩, hv, q⟩ := h
  obtain ⟨u, rfl, rx⟩ := vals1 r
  obtain ⟨a, rfl⟩ := rep_ref hv h0
  obtain rfl : u = Value.ref a := rx
  obtain ⟨as, rd, nl⟩ := Rep.reads I d _ _ h1 hv rfl
  refine repr_of_reads' rd h3 (fun z hm => ?_) hg (by omega) (fun b o e => e) (fun h' w tk hk => ⟨.str d.shown, H, I.kept hk, ⟨w, rfl⟩, q⟩) (sz6 h5)
  have := nl (h4 z) _ hm
  simp at this
def oRepr : List PyData → (Slot → Prop) → Prop
  | [d], q => reprOk d ∧ q (.dat (.str d.shown))
  | _, _ => False
theorem cd_repr : CallD K (rRepr K) oRepr := by
  intro F H xs ds q QQ e hx o k
  match ds, o, hx with
  | [d], o, hx => obtain ⟨v, rfl, h⟩ := vws1 hx; exact ⟨d, v, rfl, o.1, h.rep e, k _ _ _ o.2 out_str⟩
end

/-! ### defs that lean on what runs around them: no repr is under way -/
structure FnG (P : Program) (w : World) (K : PySem.W.Frag) (mg : Str → Option Value) (base : Heap) (k : Nat) (f : Addr) (fd : FuncData) (ps : List Str) (sp : Sp) : Prop where
  len : ∀ vs H Q E, sp vs H Q E → vs.length = ps.length
  go : ∀ (A : Around) (out : List Env) (s : Shared) (H : Hp) (ar : Args) (us : List Value) (vs : List V) (Q : VK) (E : XK), A.guards = some [] → Room k A → Env0 P w K mg base A out s H → BindsTo s fd ar (ps.zip us) → Vals vs us → sp vs H Q E →
    codeAny (model P w) A (.call (.ref f) ar) (CR CX0 out P w H s Q E) s
theorem FnOk.g {P : Program} {w : World} {K : PySem.W.Frag} {mg : Str → Option Value} {base : Heap} {k : Nat} {f : Addr} {fd : FuncData} {ps : List Str} {sp : Sp} (h : FnOk P w K mg base CX0 k f fd ps sp) : FnG P w K mg base k f fd ps sp := ⟨h.len, fun A out s H ar us vs Q E _ hr => h.run A out s H ar us vs Q E hr⟩
section
variable {X : Cx} {W : WX} {xc : XC} {k : Nat} {f : Addr} {fd : FuncData} {ps : List Str} {sp : Sp} {con : Con} {x : Str} {p pos : Pos} {e : Expr} {es : List Expr} {t ul : TA} {tl : DTA}
theorem pe_callG (Fn : FnG X.prog X.w X.K X.mg X.base k f fd ps sp) (hr : Room k X.A) (gu : X.A.guards = some []) (hg : Gl X x) (hm : X.mg x = some (.ref f)) (hk : PySem.W.keepIn X.K (.ref f) = true) (hb : Binds X.K fd ps [])
    (ha : PA X (e :: es) t) (hdb : (x == ("__debug__" : Str)) = false := by decide) (he : starEach (e :: es) X.env = (false, eval e X.env) :: starEach es X.env := by rfl) (hpl : (backTo pos (starEach es X.env)).any (·.1) = false := by rfl) :
    PE X (.Call (.Name x p) (e :: es) [] pos) (tCall sp [] E0 t) := by
  refine ⟨fun pins s σ H Q I h => wpAny_Call_Name_kw (ld_glob I hg hm ?_ hdb)⟩
  refine PySem.W.callWith_K (h₀ := X.base) I.ok.mod.kin hk (thn (ha.run pos pins s σ H _ I h) fun us s1 ⟨vs, H1, J, rv, q⟩ => ⟨J.kIn, ?_⟩) he hpl
  have q : sp vs H1 Q E0 := by
    have z : sp (vs ++ []) H1 Q E0 := q
    rwa [List.append_nil] at z
  have hl : (us ++ []).length = ps.length := by rw [List.append_nil, ← rv.length]; exact Fn.len _ _ _ _ q
  have bd := hb s1 us J.kIn hl
  rw [List.append_nil] at bd
  refine wpAny_call (codeAny_mono (Fn.go X.A X.stack s1 H1 ⟨us, []⟩ us vs Q E0 gu hr J.env0 bd rv q) fun r s' hq => ?_)
  match r, hq with
  | .ok (.ret u), hq => exact J.after hq
  | .error er, hq => exact (pass0 (X := X)) pins σ H1 s1 er s' J hq
/-- a call of such a def -/
theorem de_fnG {n : Nat} (Fn : FnG X.prog X.w X.K X.mg X.base k f fd ps (spOf X.K n con)) (hr : Room k X.A) (gu : X.A.guards = some []) (hm : X.mg x = some (.ref f)) (hk : PySem.W.keepIn X.K (.ref f) = true) (hb : Binds X.K fd ps []) (ha : DA X W xc (e :: es) ul tl) (hg : Gl X x := by rfl)
    (hdb : (x == ("__debug__" : Str)) = false := by decide) (he : starEach (e :: es) X.env = (false, eval e X.env) :: starEach es X.env := by rfl) (hpl : (backTo pos (starEach es X.env)).any (·.1) = false := by rfl) :
    DE X W xc (.Call (.Name x p) (e :: es) [] pos) (tCall (spOf X.K n con) [] E0 ul) (dFn (fun _ _ _ => False) n con tl) := by
  refine ⟨pe_callG Fn hr gu hg hm hk hb ha.p hdb he hpl, fun G ρ F σ H Q QQ hK hx I q kk => ?_⟩
  refine ha.s G ρ F σ H _ _ hK hx I q fun vs rs ρ1 F1 H1 q I1 A1 e1 => ?_
  rw [List.append_nil, ← hK]
  exact call_core (xc := fun _ _ _ => False) (fun _ _ _ _ _ _ z => z.elim) I1 A1 (A1.len.trans q.1) q.2 fun v r ρ' F' H' q' I' R' e' f' => kk v r ρ' F' H' q' I' R' (e1.trans e') (f'.back e1)
end
/-- THE RULE for such a def -/
theorem Fun.okG {P : Program} {w : World} {K : PySem.W.Frag} {mg : Str → Option Value} {base : Heap} {x qual : Str} {st : Stmt} {f : Addr} {fd : FuncData} {N ps : List Str} {k : Nat} {sp : Sp} (Fx : L2.Fun K x qual st f fd) (S : FnScope N ps (defScope st)) (len : ∀ vs H Q E, sp vs H Q E → vs.length = ps.length)
    (body : ∀ (cdv : Value) (A : Around) (out : List Env) (s : Shared) (H : Hp) (vs : List V) (Q : VK) (E : XK), A.guards = some [] → Room k (A.deeper (PyProof.Rows.envOfC qual (defScope st) s.heap.objs.size f cdv)) → sp vs H Q E →
      ∃ t, PSs (cxOf CX0 P w K mg base N qual (defScope st) f cdv A out s H E).nox (defBody st) t ∧ t { nx := fun _ H' => Q .non H', rt := Q } (L2.start N vs) H) : FnG P w K mg base (k + 1) f fd ps sp := by
  obtain ⟨c0, d0, kw, dc, pq, nn, code, tt, sl, rfl, at_, cd⟩ := Fx.ex
  refine ⟨len, fun A out s H ar us vs Q E gu hr e0 bd rv q => ?_⟩
  have KH : K.In s.heap := e0.mod.kin.keeps fun b o z => (e0.bs b o z).1
  have nl : s.heap.NoLimit := e0.mod.nolimit.keeps fun b o z => (e0.bs b o z).1
  have kinds : ∀ y ∈ ps.zip us, (defScope st).names.lookup y.1 = some .local ∨ ((defScope st).names.lookup y.1 = some .cell ∧ ((PySem.cellsFrom (s.heap.objs.size + 1) (defScope st).names []).lookup y.1).isSome = true) := fun ⟨y, u⟩ hy =>
    (S.par y (List.of_mem_zip hy).1).imp id fun z => ⟨z, PySem.W.cellsFrom_some _ _ _ (.inl z)⟩
  refine codeAny_call_function hr.depth (KH _ _ at_) rfl S.co S.gen rfl (PySem.W.codeRec_of KH cd) (bd _ _ _ _ (wpAny_newFunctionEnv_cells S.kind kinds fun env he s1 x => ?_))
  subst he
  refine ⟨nl.keeps x.toInCall.keep, codeAny_func ?_⟩
  obtain ⟨ts, pr, rd⟩ := body code A out s H vs Q E gu (hr.deeper _) q
  have J : Inv (cxOf CX0 P w K mg base N qual (defScope st) f code A out s H E) [] (L2.start N vs) H s1 := inv_start S hr.hd e0 (len _ _ _ _ q) rv x
  refine wpAny_mono ((pr.nox).run [] s1 _ H _ J rd) (fun fl s' h => ?_) fun _ _ h => h
  match fl, h with
  | .ret u, ⟨v, σ', H', J', rv', q'⟩ => exact ⟨v, H', J'.os, J'.bare, J'.base, J'.hok, rv', q'⟩
  | .next, ⟨σ', H', J', q'⟩ => exact ⟨.non, H', J'.os, J'.bare, J'.base, J'.hok, rfl, q'⟩
  | .brk, ⟨_, _, _, q'⟩ => exact False.elim q'
  | .cont, ⟨_, _, _, q'⟩ => exact False.elim q'
theorem fn_okG {P : Program} {w : World} {K : PySem.W.Frag} {mg : Str → Option Value} {base : Heap} {x qual : Str} {st : Stmt} {f : Addr} {fd : FuncData} {N ps : List Str} {k : Nat} {con : Con} (F : L2.Fun K x qual st f fd) (S : FnScope N ps (defScope st))
    (hbody : ∀ (cdv : Value) (A : Around) (outer : List Env) (s : Shared) (H : Hp), A.guards = some [] → Room k (A.deeper (PyProof.Rows.envOfC qual (defScope st) s.heap.objs.size f cdv)) →
      ∃ ts t, DSs (cxOf CX0 P w K mg base N qual (defScope st) f cdv A outer s H E0).nox (fun _ _ _ _ => False) (fun _ _ _ => False) (defBody st) ts t ∧ ∀ (ss : List Slot) (q : Slot → Prop) (y : Addr → List (Str × PyData) → Prop), ss.length = ps.length → con ss q y → t { nx := fun _ => q (.dat .none), rt := fun r _ => q r } (starts N.length ss)) :
    FnG P w K mg base (k + 1) f fd ps (spOf K ps.length con) := by
  refine Fun.okG F S (fun vs H Q E h => h.1) fun cdv A outer s H vs Q E gu hr h => ?_
  obtain ⟨hl, b, F', ss, q, y, e, hb, ha, hc, hq, _⟩ := h
  obtain ⟨ts, t, ⟨p, sm⟩, hw⟩ := hbody cdv A outer s H gu hr
  refine ⟨ts, p, sm ⟨K, b, F', H⟩ _ F' _ H _ _ rfl (fun _ _ _ _ _ _ _ _ z => z.elim) (StOk.start (N := N) e hb ha) (hw ss q y (by rw [← ha.1.len]; exact hl) hc) (ends_start hq)⟩
end DL

-- part DHead
set_option Elab.async false
set_option maxRecDepth 100000
set_option maxHeartbeats 400000
namespace DL
open PySem L2
open PyProof.Rows (AllBare)

/-- the law's call, from its promise -/
theorem head_call {P : Program} {w : World} {K : PySem.W.Frag} {mg mb : Str → Option Value} {k : Nat} {fa a : Addr} {fd : FuncData} {x : Str} {sp : Sp} {s₁ : Shared} {vs : List Value} {ns : List Int}
    (inK : K.In s₁.heap) (gns : s₁.heap.Ns mainGlobals mg) (bns : s₁.heap.Ns builtinsNs mb) (boot : ∀ x : Str, x ≠ "__name__" → mb x = bootBuiltins x) (lim : s₁.heap.NoLimit) (gens : s₁.gens = #[])
    (at_ : s₁.heap.get? a = some { cls := .type "list", data := .seq vs.toArray }) (isInts : PyProof.Rows.IntsAre vs ns) (short : ns.length ≤ sizeLine) (room : Room k callerA)
    (F : ∀ base : Heap, K.In base → base.Ns mainGlobals mg → FnG P w K mg base k fa fd [x] sp) (bind : ∀ (s : Shared) (u : Value), BindsTo s fd ⟨[u], []⟩ [(x, u)])
    (wish : ∀ H : Hp, Only H → SqL K H a (ns.map V.int) → sp [.ref a] H (fun v _ => v = .bl true) fun _ _ _ => False) :
    codeAny (model P w) callerA (.call (.ref fa) ⟨[.ref a], []⟩) (fun r s' => r = .ok (.ret (.bool true)) ∧ PySem.OldK s₁.heap s'.heap ∧ s'.os = s₁.os ∧ AllBare s'.gens) s₁ := by
  have rels := vals_ints isInts
  have lens := isInts.length
  have main : ∀ H : Hp, Only H → SqL K H a (ns.map V.int) → HOk P w H s₁.heap → (∀ b, H b ≠ none → b = a) → (H a ≠ none → K.lookup a = none) →
      codeAny (model P w) callerA (.call (.ref fa) ⟨[.ref a], []⟩) (fun r s' => r = .ok (.ret (.bool true)) ∧ PySem.OldK s₁.heap s'.heap ∧ s'.os = s₁.os ∧ AllBare s'.gens) s₁ := by
    intro H only sq okH just notK
    have clear : ∀ {b : Addr}, b ≠ a → H b = none := fun {b} ne => by
      cases q : H b with
      | none => rfl
      | some u => exact absurd (just b (by rw [q]; simp)) ne
    have toB : ∀ {b : Addr} {o : Obj}, s₁.heap.get? b = some o → H b = none → (hidT s₁.heap H).get? b = some o := fun e n => hidT_get e n
    have nsB : ∀ {b : Addr} {m : Str → Option Value}, s₁.heap.Ns b m → (hidT s₁.heap H).Ns b m := fun {b m} ⟨o, es, ep, e, d, r⟩ => ⟨o, es, ep, toB e (clear fun z => by
      subst z
      rw [at_] at e
      cases e
      cases (show Data.seq vs.toArray _ = Data.dict es ep from d)), d, r⟩
    have kB : K.In (hidT s₁.heap H) := fun b o e => toB (inK b o e) (by
      cases q : H b with
      | none => rfl
      | some u =>
        have z := just b (by rw [q]; simp)
        subst z
        rw [notK (by rw [q]; simp)] at e
        cases e)
    have modB : Mod K mg (hidT s₁.heap H) := ⟨kB, nsB gns, ⟨mb, nsB bns, boot⟩, let ⟨mc, h1, h2⟩ := lim; ⟨mc, nsB h1, h2⟩⟩
    have env : Env0 P w K mg (hidT s₁.heap H) callerA [] s₁ H := ⟨rfl, modB, fun b o e => of_hidT e, Nat.le_of_eq (hidT_size _ _), trivial, (fun b z => nomatch z), okH, .of_eq gens⟩
    refine codeAny_mono ((F _ kB (nsB gns)).go callerA [] s₁ H ⟨[.ref a], []⟩ [.ref a] [.ref a] _ _ rfl room env (bind s₁ (.ref a)) (.cons rfl .nil) (wish H only sq)) fun r s' h => ?_
    match r, h with
    | .ok (.ret u), ⟨v, H', os, bare, un, ok', rv, q⟩ =>
      have q : v = .bl true := q
      subst q
      obtain rfl : u = Value.bool true := rv
      refine ⟨rfl, PySem.OldK.of_keep fun b o e => ?_, os, bare⟩
      cases q : H b with
      | none => exact un.keep b o e q (fun z => nomatch z) (fun z => nomatch z)
      | some u =>
        rcases only b with z | ⟨ob, xs, z⟩
        · rw [q] at z; cases z
        · obtain ⟨e1, _⟩ := okH b _ z
          obtain ⟨e2, _⟩ := ok' b _ (un.frzs b ob _ z)
          rw [e] at e1; cases e1
          exact e2
    | .error er, h => exact (show False from h).elim
  cases own : K.lookup a with
  | some o =>
    have e := inK a o own
    rw [at_] at e
    cases e
    exact main (fun _ => none) (fun _ => .inl rfl) (.inr ⟨_, vs.toArray, _, own, rfl, rfl, rfl, by rw [List.size_toArray, lens]; exact short, by simpa using rels⟩) (fun b u z => nomatch z) (fun b z => absurd rfl z) fun z => absurd rfl z
  | none =>
    let o : HO := .frz { cls := .type "list", data := .seq vs.toArray } (.lst (ns.map V.int))
    refine main (fun b => if b = a then some o else none) (fun b => ?_) (.inl (.inr ⟨_, if_pos rfl⟩)) (fun b u z => ?_) (fun b z => ?_) fun _ => own
    · by_cases h : b = a
      · exact .inr ⟨_, _, if_pos h⟩
      · exact .inl (if_neg h)
    · by_cases h : b = a
      · have z2 := (if_pos h).symm.trans z
        cases z2
        subst h
        exact ⟨at_, by rw [List.length_map]; exact short, vs, _, rels, at_⟩
      · have z2 := (if_neg h).symm.trans z
        cases z2
    · by_cases h : b = a
      · exact h
      · exact absurd (if_neg h) z
/-- the goal that the head leaves, from the law's promise; what the loose names hold is handed on (XP) -/
theorem head_of {l : PySem.W.OpenLaw} {n k : Nat} {q : Program} {loose : List Str} {XP : (Str → Option Value) → Heap → Prop} {YP : World → Heap → Prop} {d : DefRec} {K : Params → PySem.W.Frag} {sp : World → Sp} {x : Str}
    (hn : l.most = some n) (hn2 : n ≤ sizeLine) (hdf : d.params.defaults = []) (hr : Room k callerA)
    (hY : ∀ (w : World) (h : Heap), YP w h → (K w.params).In h)
    (F : ∀ (w : World) (mg : Str → Option Value) (fa : Addr) (h : Heap), (K w.params).In h → h.Ns mainGlobals mg → XP mg h → mg d.name = some (.ref fa) →
      ∃ fd : FuncData, (∀ (s : Shared) (u : Value), BindsTo s fd ⟨[u], []⟩ [(x, u)]) ∧
        ∀ base : Heap, (K w.params).In base → base.Ns mainGlobals mg → FnG l.prog w (K w.params) mg base k fa fd [x] (sp w))
    (hsp : ∀ (w : World) (H : Hp) (a : Addr) (ns : List Int), ns.length ≤ n → (∀ z ∈ ns, Builtin.Int.intBits z ≤ 1048576) → Only H → SqL (K w.params) H a (ns.map V.int) → sp w [.ref a] H (fun v _ => v = .bl true) fun _ _ _ => False) :
    PySem.W.WalkO q loose XP YP l.row.toRowW d [] (fun f vs => PySem.call f vs) := by
  refine Att.attach_callB hn hdf fun w s₀ s₁ mg mb fa o pm cd doc a vs ns G Y ho hd hcd hmg hobj hints hlen hbits hg => ?_
  have inK := hY w _ Y
  obtain ⟨fd, hb, hF⟩ := F w mg fa _ inK G.T.g G.X hmg
  exact head_call inK G.T.g G.T.b G.T.builtins G.T.nolimit hg hobj hints (Nat.le_trans hlen hn2) hr hF hb fun H hO hS => hsp w H a ns hlen hbits hO hS
end DL

-- part DSort
set_option Elab.async false
set_option maxRecDepth 100000
set_option maxHeartbeats 400000
namespace DL
open PySem L2
open PySem.W (EachIs AllAlike Sortable dataLe)
theorem each_of {α β : Type} {R : α → β → Prop} : ∀ {as : List α} {bs : List β}, as.length = bs.length → (∀ (i : Nat) (a : α) (b : β), as[i]? = some a → bs[i]? = some b → R a b) → EachIs R as bs
  | [], [], _, _ => .nil
  | a :: as, b :: bs, hl, h => .cons (h 0 a b rfl rfl) (each_of (by simpa using hl) fun i x y h1 h2 => h (i + 1) x y (by simpa using h1) (by simpa using h2))
  | [], _ :: _, hl, _ => by simp at hl
  | _ :: _, [], hl, _ => by simp at hl
theorem each_vals {γ : Type} {f : γ → V} {R : Value → γ → Prop} (hR : ∀ u b, R u b → RelV (f b) u) : ∀ {us : List Value} {bs : List γ}, EachIs R us bs → Vals (bs.map f) us
  | _, _, .nil => .nil
  | _, _, .cons h t => .cons (hR _ _ h) (each_vals hR t)
mutual
theorem reads_lt {h : Heap} : ∀ {v : Value} {d : PyData} {as : List Addr}, Reads h v d as → ∀ a ∈ as, a < h.objs.size
  | _, _, _, .none, _, hm => nomatch hm
  | _, _, _, .bool _, _, hm => nomatch hm
  | _, _, _, .int _ _, _, hm => nomatch hm
  | _, _, _, .str _ _, _, hm => nomatch hm
  | _, _, _, .list h1 _ _ h4, a, hm => by
    rcases List.mem_cons.mp hm with e | hm
    · subst e; exact Heap.lt_size h1
    · exact readsAll_lt h4 a hm
  | _, _, _, .tuple _ _ _ h4, a, hm => readsAll_lt h4 a hm
  | _, _, _, .dict h1 _ _ h4 h5, a, hm => by
    rcases List.mem_append.mp hm with hm | hm
    · rcases List.mem_cons.mp hm with e | hm
      · subst e; exact Heap.lt_size h1
      · exact readsAll_lt h4 a hm
    · exact readsAll_lt h5 a hm
theorem readsAll_lt {h : Heap} : ∀ {vs : List Value} {ds : List PyData} {as : List Addr}, ReadsAll h vs ds as → ∀ a ∈ as, a < h.objs.size
  | _, _, _, .nil, _, hm => nomatch hm
  | _, _, _, .cons h1 h2, a, hm => (List.mem_append.mp hm).elim (reads_lt h1 a) (readsAll_lt h2 a)
end
section
variable {X : Cx} {pins : List (Addr × Obj)} {σ : L2.St} {H H1 F1 : Hp} {s : Shared}
def sortedD (ds : List PyData) : List PyData := ds.mergeSort (dataLe false id)
/-- the new list of the values is sorted; what it holds then -/
theorem sort_push {A : Around} {E : Value → Shared → Prop} {QQ : VK} {us : List Value} {xs : List V} {ds : List PyData} (I : Inv X pins σ H1 s) (rv : Vals xs us) (e1 : Same F1 H1) (rp : Reps X.K F1 ds xs) (ok : okEs ds = true) (al : AllAlike ds) (so : Sortable ds) (hl : ds.length ≤ sizeLine) (hu : A.units + 1 + PyData.depthAll ds < cLine)
    (h : ∀ ys, Reps X.K F1 (sortedD ds) ys → H1 s.heap.objs.size = none → QQ (.ref s.heap.objs.size) (upd H1 s.heap.objs.size (.lst ys))) :
    wpAny (model X.prog X.w) A (call (.builtin "list.sort") [.ref s.heap.objs.size]) (fun _ s' => EP X pins σ QQ (.ref s.heap.objs.size) s') E { s with heap := s.heap.push { cls := .type "list", data := .seq us.toArray } } := by
  have l1 := rp.length
  have l2 := rv.length
  have zl : xs.length = ds.length := l1
  have keep : ∀ b o, s.heap.get? b = some o → (s.heap.push { cls := .type "list", data := .seq us.toArray }).get? b = some o := fun b o e => Heap.get?_push_of_some _ e
  have new : (s.heap.push { cls := .type "list", data := .seq us.toArray }).get? s.heap.objs.size = some (PyProof.Rows.seqObj "list" us.toArray 0) := Heap.get?_push_size _ rfl
  let bs : List (V × PyData) := xs.zip ds
  have b2 : bs.map (·.2) = ds := List.map_snd_zip (by omega)
  have b1 : bs.map (·.1) = xs := List.map_fst_zip (by omega)
  have bl : bs.length = ds.length := by rw [← b2, List.length_map]
  have at_ : ∀ (i : Nat) (b : V × PyData), bs[i]? = some b → xs[i]? = some b.1 ∧ ds[i]? = some b.2 := fun i b hb => List.getElem?_zip_eq_some.mp hb
  have er : EachIs (fun u b => RelV b.1 u ∧ Rep X.K F1 b.2 b.1) us bs := each_of (by omega) fun i u b h1 h2 => by
    obtain ⟨x1, x2⟩ := at_ i b h2
    obtain ⟨v, v1, v2⟩ := rp.get x2
    rw [x1] at v1; cases v1
    exact ⟨paired_at rv x1 h1, v2⟩
  have okAt : ∀ {ds : List PyData} {d : PyData}, okEs ds = true → d ∈ ds → okE d = true := by
    intro ds
    induction ds with
    | nil => intro d _ hm; cases hm
    | cons a ds ih =>
      intro d o hm
      simp only [okEs, Bool.and_eq_true] at o
      rcases List.mem_cons.mp hm with e | hm
      · subst e; exact o.1
      · exact ih o.2 hm
  have dpAt : ∀ {ds : List PyData} {d : PyData}, d ∈ ds → d.depth ≤ PyData.depthAll ds := by
    intro ds
    induction ds with
    | nil => intro d hm; cases hm
    | cons a ds ih =>
      intro d hm
      simp only [PyData.depthAll]
      rcases List.mem_cons.mp hm with e | hm
      · subst e; exact Nat.le_max_left _ _
      · exact Nat.le_trans (ih hm) (Nat.le_max_right _ _)
  have rd : EachIs (fun u b => ∃ as, Reads (s.heap.push { cls := .type "list", data := .seq us.toArray }) u b.2 as ∧ s.heap.objs.size ∉ as) us bs := each_of (by omega) fun i u b h1 h2 => by
    obtain ⟨x1, x2⟩ := at_ i b h2
    obtain ⟨v, v1, v2⟩ := rp.get x2
    rw [x1] at v1; cases v1
    obtain ⟨as, r, _⟩ := Rep.reads I b.2 b.1 u (okAt ok (List.mem_of_getElem? x2)) (Rep.mono e1 _ _ v2) (paired_at rv x1 h1)
    exact ⟨as, PyProof.Rows.Reads.keeps keep r, fun hm => absurd (reads_lt r _ hm) (Nat.lt_irrefl _)⟩
  refine PySem.W.list_sort_data (s := { s with heap := s.heap.push { cls := .type "list", data := .seq us.toArray } }) (enc := fun b : V × PyData => b.2) (R := fun u b => RelV b.1 u ∧ Rep X.K F1 b.2 b.1) new er rd (by rw [b2]; exact al) (by rw [b2]; exact so) (by omega) (fun b hb => ?_) fun out ho eo => ?_
  · have : b.2 ∈ ds := by rw [← b2]; exact List.mem_map.mpr ⟨b, hb, rfl⟩
    have := dpAt this
    omega
  · have n0 : H1 s.heap.objs.size = none := I.hok.fresh (Nat.le_refl _)
    let cs := bs.mergeSort (dataLe false fun b : V × PyData => b.2)
    have ec : cs.map (·.2) = sortedD ds := by
      show (bs.mergeSort _).map (·.2) = ds.mergeSort _
      rw [← b2]
      exact List.map_mergeSort fun a _ b _ => rfl
    have vo : Vals (cs.map (·.1)) out := each_vals (R := fun u b => RelV b.1 u ∧ Rep X.K F1 b.2 b.1) (fun u b q => q.1) eo
    have ro : Reps X.K F1 (sortedD ds) (cs.map (·.1)) := by
      rw [← ec]
      clear vo ec
      revert eo
      show EachIs _ out cs → _
      clear ho
      generalize cs = l
      intro eo
      induction eo with
      | nil => exact Reps.nil
      | cons q t ih => exact Reps.cons q.2 ih
    obtain ⟨en, hn⟩ := PyProof.Rows.sortedHeap_at (vs := us) (out := out.toArray) new
    have kept : ∀ b o, s.heap.get? b = some o → (PyProof.Rows.sortedHeap (s.heap.push { cls := .type "list", data := .seq us.toArray }) s.heap.objs.size us out.toArray).get? b = some o := fun b o e =>
      (PyProof.Rows.sortedHeap_old (Nat.ne_of_lt (Heap.lt_size e)) (Heap.lt_size (keep b o e))).trans (keep b o e)
    have len : (cs.map (·.1)).length ≤ sizeLine := by
      rw [ro.length, sortedD, List.length_mergeSort]; exact hl
    exact ⟨.ref s.heap.objs.size, _, I.laid (t' := s.toks) kept (Nat.le_refl _) (show ObjOk X.prog X.w _ _ _ (.lst (cs.map (·.1))) from ⟨len, out, en, vo, by simpa using hn⟩), rfl, h _ ro n0⟩
end

/-- what is frozen, and every tuple -/
def tupF (F H : Hp) : Hp := fun b => match H b with
  | some (.tup xs) => some (.tup xs)
  | _ => F b
section
variable {F H : Hp} {K : PySem.W.Frag}
theorem tupF_tup {b : Addr} {xs : List V} (h : H b = some (.tup xs)) : tupF F H b = some (.tup xs) := by simp only [tupF, h]
theorem tupF_cases (b : Addr) : (∃ xs, H b = some (.tup xs) ∧ tupF F H b = some (.tup xs)) ∨ tupF F H b = F b := by
  unfold tupF
  cases e : H b with
  | none => exact .inr rfl
  | some o => cases o <;> first | exact .inl ⟨_, rfl, rfl⟩ | exact .inr rfl
theorem tupF_ex (e : Same F H) : Same F (tupF F H) := fun b o h => by
  rcases tupF_cases (F := F) (H := H) b with ⟨xs, h1, h2⟩ | h2
  · have := e b o h
    rw [h1] at this; cases this; exact h2
  · rw [h2]; exact h
theorem tupF_in (e : Same F H) : Same (tupF F H) H := fun b o h => by
  rcases tupF_cases (F := F) (H := H) b with ⟨xs, h1, h2⟩ | h2
  · rw [h2] at h; cases h; exact h1
  · rw [h2] at h; exact e b o h
theorem tupF_new (b : Addr) (o : HO) (h : tupF F H b = some o) : F b = some o ∨ H b = none ∨ Imm o := by
  rcases tupF_cases (F := F) (H := H) b with ⟨xs, h1, h2⟩ | h2
  · rw [h2] at h; cases h; exact .inr (.inr (.tup _))
  · rw [h2] at h; exact .inl h
theorem reps_key : ∀ (k : List Key), Reps K F (k.map keyD) (k.map kV)
  | [] => Reps.nil
  | .inl i :: k => Reps.cons (by simp only [keyD, Rep]; rfl) (reps_key k)
  | .inr i :: k => Reps.cons (by simp only [keyD, Rep]; rfl) (reps_key k)
theorem rep_key {q : Addr} {k : List Key} (h : F q = some (.tup (k.map kV))) : Rep K F (tkeyD k) (.ref q) := by
  simp only [tkeyD, Rep]
  exact ⟨q, _, rfl, h, reps_key k⟩
def keysOf {α : Type} (kvs : List (List Key × α)) : List PyData := kvs.map fun p => tkeyD p.1
/-- that keys can be sorted -/
def sortOk (ds : List PyData) : Prop := AllAlike ds ∧ Sortable ds ∧ okEs ds = true ∧ PyData.depthAll ds ≤ 20 ∧ ds.length ≤ 100000
theorem reps_keysKT {ps : List (List Key × V)} {xs : List (List Key × Addr × Value)} (r : KT H ps xs) : Reps K (tupF F H) (keysOf ps) (xs.map fun x => V.ref x.2.1) := by
  unfold keysOf
  induction r with
  | nil => exact Reps.nil
  | cons h t ih => exact Reps.cons (rep_key (tupF_tup h.2.1)) ih
/-- a dict of tuple keys; an empty one of any kind -/
def isT (H : Hp) (a : Addr) (ps : List (List Key × V)) : Prop := H a = some (.dT ps) ∨ (ps = [] ∧ H a = some (.dK []))
theorem isT_raw {X : Cx} {pins : List (Addr × Obj)} {σ : L2.St} {s : Shared} {a : Addr} {ps : List (List Key × V)} (I : Inv X pins σ H s) (h : isT H a ps) : ps.length ≤ sizeLine ∧ (a == sysModules) = false ∧ ∃ ks, KT H ps ks ∧ s.heap.DictOfH (tupleKind (mixKind X.prog X.w)) a ks := by
  rcases h with h | ⟨rfl, h⟩
  · exact dt_rd I.hok (Rd.of h)
  · obtain ⟨z, hd, vs, rel, o, es, ep, ho, hx, hdat, _, hp, _⟩ := dk_rd I.hok (Rd.of h)
    cases rel
    have : es.size = 0 := by have := hp.length; simpa using this
    have : es = #[] := Array.eq_empty_of_size_eq_zero this
    subst this
    exact ⟨z, hd, [], .nil, o, #[], ep, ho, hx, hdat, rfl, (fun x hx => nomatch hx), List.nodup_nil⟩
theorem vw_isT {kvs : List (PyData × PyData)} {t : List (List Key × PyData)} {v : V} (h : Vw K F H (.dict kvs) v) (e : kvsT kvs = some t) : ∃ a ps, v = .ref a ∧ isT H a ps ∧ KVs K F t ps := by
  obtain ⟨a, rfl, h | h⟩ := h
  · obtain ⟨ps, h1, h2⟩ := h
    obtain ⟨rfl, rfl⟩ := kvs_of_repK (by rw [e]; rfl) h2
    cases e
    exact ⟨a, [], rfl, .inr ⟨rfl, h1⟩, rfl⟩
  · obtain ⟨ps, h1, h2⟩ := h
    exact ⟨a, ps, rfl, .inl h1, kvsT_rep e h2⟩
def rSortK (K : PySem.W.Frag) : List V → Hp → VK → Prop := fun xs H Q => ∃ a ps, xs = [V.ref a] ∧ isT H a ps ∧ sortOk (keysOf ps) ∧ ∀ (l : Addr) (ys : List V), H l = none → Reps K (tupF (fun _ => none) H) (sortedD (keysOf ps)) ys → Q (.ref l) (upd H l (.lst ys))
theorem cr_sortK {X : Cx} (hc : X.calm = true) (hu : X.A.units + 64 < cLine) : CallR X (.builtin "sorted") (rSortK X.K) := by
  intro pins s σ H xs us Q I r h
  obtain ⟨a, ps, rfl, hd, ⟨al, so, ok, dp, ln⟩, q⟩ := h
  obtain ⟨u, rfl, rx⟩ := vals1 r
  obtain rfl : u = Value.ref a := rx
  obtain ⟨z, lo, ks, rel, o, es, ep, ho, hx, hdat, hes, his, hn⟩ := isT_raw I hd
  have l1 := Paired.length rel
  have l2 : es.size = ks.length := size_of_entries hes
  have raw : s.heap.DictRaw a es ep := ⟨o, ho, hx, hdat⟩
  refine Calls.call_function_entry PyProof.Rows.kind_sorted PyProof.Rows.plain_sorted PyProof.Rows.entry_sorted (PyProof.Rows.args_sorted1 _) ?_
  unfold Builtin.«sorted»
  refine wpAny_bind (m := checkCount "sorted" 1 1 _) (wpAny_pure ?_)
  refine wpAny_bind (PySem.W.kdu_collect (A := X.A.in1) (KdlSrc.rawDict (prog := X.prog) (w := X.w) (es := es) (ep := ep) lo) (I.ok.hd hc) raw (by omega) fun h' tk acc hk hacc => ?_)
  have I1 : Inv X pins σ H { s with heap := h', toks := tk } := I.kept hk
  have accl : acc.toList.length = ks.length := by rw [Array.length_toList, hacc.1, l2]
  have acck : ∀ (i : Nat) (v : Value) (x : List Key × Addr × Value), acc.toList[i]? = some v → ks[i]? = some x → v = .ref x.2.1 := fun i v x h1 h2 => by
    obtain ⟨hi, e⟩ := hacc.2 i v (by rw [← Array.getElem?_toList]; exact h1)
    have en := entry_at hes i
    rw [Array.getElem?_eq_getElem hi, h2] at en
    have en' : es[i] = entryOfKey (tupleKind (mixKind X.prog X.w)) x := by simpa using en
    rw [e, en']; rfl
  have rv : Vals (ks.map fun x => V.ref x.2.1) acc.toList := by
    refine (show ∀ {l : List (List Key × Addr × Value)} {us : List Value}, us.length = l.length → (∀ (i : Nat) (v : Value) (x : List Key × Addr × Value), us[i]? = some v → l[i]? = some x → v = .ref x.2.1) → Vals (l.map fun x => V.ref x.2.1) us from ?_) accl acck
    intro l
    induction l with
    | nil => intro us hl _; cases us with
      | nil => exact .nil
      | cons _ _ => simp at hl
    | cons x l ih =>
      intro us hl hq
      cases us with
      | nil => simp at hl
      | cons u us => exact .cons (hq 0 u x rfl rfl) (ih (by simpa using hl) fun i v y h1 h2 => hq (i + 1) v y (by simpa using h1) (by simpa using h2))
  have e0 : Same (fun _ => none : Hp) H := fun _ _ h => nomatch h
  have rp : Reps X.K (tupF (fun _ => none) H) (keysOf ps) (ks.map fun x => V.ref x.2.1) := reps_keysKT rel
  have hg := sort_push (A := X.A.in1) (E := X.xe) (QQ := Q) (s := { s with heap := h', toks := tk }) I1 rv (tupF_in e0) rp ok al so (sz_of ln) (by show X.A.units + 1 + 1 + _ < cLine; omega) fun ys hy hl => q _ ys hl hy
  refine wpAny_bind (wpAny_newList ?_ (by rw [accl]; omega))
  exact wpAny_bind (wpAny_holding (wpAny_mono hg (fun _ s' x => wpAny_pure ⟨_, rfl, x⟩) fun _ _ e => e))
theorem keysOf_eq : ∀ {t : List (List Key × PyData)} {ps : List (List Key × V)}, KVs K F t ps → keysOf ps = keysOf t
  | [], _, h => by have h : _ = [] := h; subst h; rfl
  | (q, d) :: r, ps, ⟨v, u, h1, h2, h3⟩ => by subst h1; unfold keysOf; rw [List.map_cons, List.map_cons]; congr 1; exact keysOf_eq h3
def oSortK : List PyData → (Slot → Prop) → Prop
  | [.dict kvs], q => withKT (kvsT kvs) fun t => sortOk (keysOf t) ∧ q (.own (sortedD (keysOf t)))
  | _, _ => False
theorem cd_sortK : CallD K (rSortK K) oSortK := by
  intro F H xs ds q QQ e hx o k
  match ds, o, hx with
  | [.dict kvs], o, hx =>
    obtain ⟨v, rfl, h⟩ := vws1 hx
    obtain ⟨t, et, so, o⟩ := withKT.out o
    obtain ⟨a, ps, rfl, h1, h2⟩ := vw_isT h et
    rw [← keysOf_eq h2] at so o
    refine ⟨a, ps, rfl, h1, so, fun l ys hl hy => ?_⟩
    have hFl : F l = none := by
      cases z : F l with
      | none => rfl
      | some u => have := e _ _ z; rw [hl] at this; cases this
    have up : Same (tupF (fun _ => none) H) (tupF F H) := fun b u z => by
      rcases tupF_cases (F := fun _ => none) (H := H) b with ⟨xs, z1, z2⟩ | z2
      · rw [z2] at z; cases z; exact tupF_tup z1
      · rw [z2] at z; cases z
    have keep : Same H (upd H l (.lst ys)) := same_upd hl
    refine k _ _ _ o (.gen (tupF_ex e) ((tupF_in e).trans keep) keep tupF_new (.own hl ?_ upd_same (Reps.mono up _ _ hy)))
    rcases tupF_cases (F := F) (H := H) l with ⟨xs, z1, _⟩ | z2
    · rw [hl] at z1; cases z1
    · rw [z2]; exact hFl
end
end DL

-- part DDict
set_option Elab.async false
set_option maxRecDepth 100000
set_option maxHeartbeats 400000
namespace DL
open PySem L2
open PySem.W (EachIs AllAlike Sortable dataLe)
open L2.DX (itemsO takeT)
/-! ### sorted(d), sorted(d.items()), dict(a list of pairs); d's keys are tuples -/
section
variable {X : Cx} {pins : List (Addr × Obj)} {σ : L2.St} {F H : Hp} {s : Shared} {K : PySem.W.Frag}
def itemOf (p : List Key × PyData) : PyData := .tuple [tkeyD p.1, p.2]
def itemsOf (t : List (List Key × PyData)) : List PyData := t.map itemOf
def rSortI (K : PySem.W.Frag) : List V → Hp → VK → Prop := fun xs H Q => ∃ (p a : Addr) (ps : List (List Key × V)) (F : Hp) (t : List (List Key × PyData)), xs = [.ref p] ∧ H p = some (itemsO p a) ∧ isT H a ps ∧ Same F H ∧ KVs K F t ps ∧ sortOk (itemsOf t) ∧
  ∀ (H2 : Hp) (l : Addr) (ys : List V), Same H H2 → H l = none → H2 l = some (.lst ys) → Reps K (tupF F H2) (sortedD (itemsOf t)) ys → Q (.ref l) H2
theorem cr_sortI {X : Cx} (hc : X.calm = true) (hu : X.A.units + 64 < cLine) : CallR X (.builtin "sorted") (rSortI X.K) := by
  intro pins s σ H xs us Q I r h
  obtain ⟨p, a, ps, F, t, rfl, hp, ha, hF, hk, ⟨al, so, ok, dp, ln⟩, q⟩ := h
  obtain rfl := Vals.ref1 r
  have view : s.heap.IsItemsView p a := (show ObjOk X.prog X.w H s.heap p (itemsO p a) from I.hok p _ hp).1
  obtain ⟨z, lo, ks, rel, o, es, ep, ho, hx, hdat, hes, his, hn⟩ := isT_raw I ha
  have l1 := Paired.length rel
  have l2 : es.size = ks.length := size_of_entries hes
  have l3 := hk.length
  refine DT.sortedI (es := es) (ep := ep) (I.ok.hd hc) view ⟨o, ho, hx, hdat⟩ (by omega) fun h' tk as hkp hlt hl hG => ?_
  have nd : as.Nodup := List.Pairwise.imp (fun h => Nat.ne_of_lt h) hG.rise
  have I1 : Inv X pins σ H { s with heap := h', toks := tk } := I.kept hkp
  let P : Addr → List V → Prop := fun b vs => ∃ (j : Nat) (x : List Key × Addr × Value) (pv : List Key × V), as[j]? = some b ∧ ks[j]? = some x ∧ ps[j]? = some pv ∧ vs = [.ref x.2.1, pv.2]
  obtain ⟨H2, I2, g, tr⟩ := takeT (P := P) I as H I1 nd fun b hb => by
    obtain ⟨j, hj⟩ := List.mem_iff_getElem?.mp hb
    obtain ⟨en, he, hg⟩ := hG.pairs j b hj
    have hb' : s.heap.objs.size < b := hG.above b hb
    rw [entry_at hes j] at he
    cases hx : ks[j]? with
    | none => rw [hx] at he; cases he
    | some x =>
      rw [hx] at he
      have een : entryOfKey (tupleKind (mixKind X.prog X.w)) x = en := Option.some.inj he
      have hjl : j < ps.length := by rw [l1]; exact (List.getElem?_eq_some_iff.mp hx).1
      obtain ⟨r1, r2, r3⟩ := paired_at rel (i := j) (List.getElem?_eq_getElem hjl) hx
      refine ⟨Nat.le_of_lt hb', I.hok.fresh (Nat.le_of_lt hb'), [.ref x.2.1, ps[j].2], ⟨j, x, ps[j], hj, hx, List.getElem?_eq_getElem hjl, rfl⟩, fun H' => ⟨by show 2 ≤ sizeLine; decide, [.ref x.2.1, x.2.2], .cons rfl (.cons r3 .nil), ⟨_, hg, rfl, 0, ?_⟩⟩⟩
      rw [← een]; rfl
  have ex2 : Same F H2 := fun b o e => g b o (hF b o e)
  have rv : Vals (as.map V.ref) (as.map Value.ref) := by
    clear tr nd hG hl
    induction as with
    | nil => exact .nil
    | cons b as ih => exact .cons rfl ih
  have rp : Reps X.K (tupF F H2) (itemsOf t) (as.map V.ref) := by
    have each : ∀ (j : Nat) (b : Addr) (pd : List Key × PyData), as[j]? = some b → t[j]? = some pd → Rep X.K (tupF F H2) (itemOf pd) (.ref b) := fun j b pd hj hd => by
      obtain ⟨vs, ⟨j', x, pv, e1, e2, e3, e4⟩, e5⟩ := tr b (List.mem_of_getElem? hj)
      have jj : j' = j := by
        have a1 := (List.getElem?_eq_some_iff.mp e1)
        have a2 := (List.getElem?_eq_some_iff.mp hj)
        exact (List.getElem_inj nd).mp (a1.2.trans a2.2.symm)
      subst jj
      subst e4
      obtain ⟨r1, r2, r3⟩ := paired_at rel e3 e2
      have kk : ∀ {t : List (List Key × PyData)} {ps : List (List Key × V)} {i : Nat} {pd : List Key × PyData} {pv : List Key × V}, KVs X.K F t ps → t[i]? = some pd → ps[i]? = some pv → pd.1 = pv.1 ∧ Rep X.K F pd.2 pv.2 := by
        intro t
        induction t with
        | nil => intro ps i pd pv _ h; simp at h
        | cons c t ih =>
          rintro ps i pd pv ⟨v, u, rfl, h2, h3⟩ h4 h5
          cases i with
          | zero => simp at h4 h5; subst h4 h5; exact ⟨rfl, h2⟩
          | succ i => exact ih h3 (by simpa using h4) (by simpa using h5)
      obtain ⟨y1, y2⟩ := kk hk hd e3
      unfold itemOf
      simp only [Rep]
      refine ⟨b, _, rfl, tupF_tup e5, Reps.cons ?_ (Reps.cons (Rep.mono (tupF_ex ex2) _ _ y2) Reps.nil)⟩
      rw [y1]
      exact rep_key (tupF_tup (g _ _ r2))
    have len : as.length = t.length := by omega
    refine (show ∀ {as : List Addr} {t : List (List Key × PyData)}, as.length = t.length → (∀ (j : Nat) (b : Addr) (pd : List Key × PyData), as[j]? = some b → t[j]? = some pd → Rep X.K (tupF F H2) (itemOf pd) (.ref b)) → Reps X.K (tupF F H2) (itemsOf t) (as.map V.ref) from ?_) len each
    intro as
    induction as with
    | nil => intro t hl _; cases t with
      | nil => exact Reps.nil
      | cons _ _ => simp at hl
    | cons b as ih =>
      intro t hl hq
      cases t with
      | nil => simp at hl
      | cons c t => exact Reps.cons (hq 0 b c rfl rfl) (ih (by simpa using hl) fun j b pd h1 h2 => hq (j + 1) b pd (by simpa using h1) (by simpa using h2))
  exact sort_push (A := X.A.in1) (E := X.xe) (QQ := Q) (s := { s with heap := h', toks := tk }) I2 rv (tupF_in ex2) rp ok al so (sz_of ln) (by show X.A.units + 1 + 1 + _ < cLine; omega) fun ys hy hl2 =>
    q _ _ ys (fun b o e => by rw [upd_ne (ne_of_none (g b o e) hl2)]; exact g b o e) (by
      cases e : H h'.objs.size with
      | none => rfl
      | some o => rw [g _ _ e] at hl2; cases hl2) upd_same (Reps.mono (fun b o e => by
        rcases tupF_cases (F := F) (H := H2) b with ⟨zs, h1, h2⟩ | h2
        · rw [h2] at e; cases e
          exact tupF_tup (by rw [upd_ne (ne_of_none h1 hl2)]; exact h1)
        · rw [h2] at e
          exact tupF_ex (fun b o e => by rw [upd_ne (ne_of_none (ex2 b o e) hl2)]; exact ex2 b o e) b o e) _ _ hy)

/-! ### dict(pairs) -/
def rDictT : List V → Hp → VK → Prop := fun xs H Q => ∃ (l : Addr) (ts : List (Addr × List Key × Addr × V)), xs = [.ref l] ∧ H l = some (.lst (ts.map fun t => .ref t.1)) ∧ (∀ t ∈ ts, H t.1 = some (.tup [.ref t.2.2.1, t.2.2.2]) ∧ H t.2.2.1 = some (.tup (t.2.1.map kV))) ∧ (ts.map (·.2.1)).Nodup ∧ ts.length ≤ 100000 ∧
  ∀ p, H p = none → Q (.ref p) (upd H p (.dT (ts.map fun t => (t.2.1, t.2.2.2))))
theorem cr_dictT {X : Cx} (hc : X.calm = true) (hu : X.A.units + 64 < cLine) : CallR X (.type "dict") rDictT := by
  intro pins s σ H xs us Q I r h
  obtain ⟨l, ts, rfl, hl, ht, nd, hz, q⟩ := h
  obtain rfl := Vals.ref1 r
  obtain ⟨z, its, n, rv, e⟩ := (show ObjOk X.prog X.w H s.heap l (.lst (ts.map fun t => .ref t.1)) from I.hok l _ hl)
  have lits := rv.length
  rw [List.length_map] at lits
  have val : ∀ t ∈ ts, ∃ u : Value, RelV t.2.2.2 u ∧ PyProof.Rows.IsTup s.heap t.1 #[.ref t.2.2.1, u] := fun t hm => by
    obtain ⟨h1, h2⟩ := ht t hm
    obtain ⟨_, is, r2, tp⟩ := (show ObjOk X.prog X.w H s.heap t.1 (.tup [.ref t.2.2.1, t.2.2.2]) from I.hok t.1 _ h1)
    cases r2 with
    | cons ra rb =>
      cases rb with
      | @cons _ u _ _ rc rd =>
        cases rd
        obtain rfl := (show _ = Value.ref t.2.2.1 from ra)
        exact ⟨u, rc, tp⟩
  -- the pairs, with the values
  have lift : ∀ {ts : List (Addr × List Key × Addr × V)}, (∀ t ∈ ts, ∃ u : Value, RelV t.2.2.2 u ∧ PyProof.Rows.IsTup s.heap t.1 #[.ref t.2.2.1, u]) → ∃ us : List Value, us.length = ts.length ∧ ∀ (j : Nat) (t : Addr × List Key × Addr × V) (u : Value), ts[j]? = some t → us[j]? = some u → RelV t.2.2.2 u ∧ PyProof.Rows.IsTup s.heap t.1 #[.ref t.2.2.1, u] := by
    intro ts
    induction ts with
    | nil => intro _; exact ⟨[], rfl, fun j t u h => by simp at h⟩
    | cons t ts ih =>
      intro hv
      obtain ⟨u, hu⟩ := hv t List.mem_cons_self
      obtain ⟨us, ul, uh⟩ := ih fun t hm => hv t (List.mem_cons_of_mem _ hm)
      refine ⟨u :: us, by simp [ul], fun j t' u' h1 h2 => ?_⟩
      cases j with
      | zero => simp at h1 h2; subst h1 h2; exact hu
      | succ j => exact uh j t' u' (by simpa using h1) (by simpa using h2)
  obtain ⟨us, ul, uh⟩ := lift val
  let prs : List (Value × Value) := (ts.zip us).map fun p => (.ref p.1.2.2.1, p.2)
  let ks : List (List Key × Addr × Value) := (ts.zip us).map fun p => (p.1.2.1, p.1.2.2.1, p.2)
  have zl : (ts.zip us).length = ts.length := by rw [List.length_zip]; omega
  have pl : prs.length = ts.length := by show ((ts.zip us).map _).length = _; rw [List.length_map, zl]
  have kl : ks.length = ts.length := by show ((ts.zip us).map _).length = _; rw [List.length_map, zl]
  have at_ : ∀ (j : Nat) (t : Addr × List Key × Addr × V) (u : Value), ts[j]? = some t → us[j]? = some u → (ts.zip us)[j]? = some (t, u) := fun j t u h1 h2 => List.getElem?_zip_eq_some.mpr ⟨h1, h2⟩
  have zat : ∀ (j : Nat) (p : (Addr × List Key × Addr × V) × Value), (ts.zip us)[j]? = some p → ts[j]? = some p.1 ∧ us[j]? = some p.2 := fun j p h => List.getElem?_zip_eq_some.mp h
  have kkeys : ks.map (·.1) = ts.map (·.2.1) := by
    show ((ts.zip us).map _).map _ = _
    rw [List.map_map]
    have : ts.map (·.2.1) = ((ts.zip us).map (·.1)).map (·.2.1) := by rw [List.map_fst_zip (by omega)]
    rw [this, List.map_map]; rfl
  have nd' : (ks.map (·.1)).Nodup := by rw [kkeys]; exact nd
  have isK : ∀ x ∈ ks, (tupleKind (mixKind X.prog X.w)).is s.heap x.1 x.2.1 := fun x hx => by
    obtain ⟨p, hp, rfl⟩ := List.mem_map.mp hx
    obtain ⟨j, hj⟩ := List.mem_iff_getElem?.mp hp
    exact key_of I.hok (ht p.1 (List.mem_of_getElem? (zat j p hj).1)).2
  refine call_dict_pairsH (knd := tupleKind (mixKind X.prog X.w)) (ps := ks) (PairArg.list l its.toArray (fun j => (ts.map (·.1)).getD j 0) prs) (I.ok.hd hc) (by show X.A.units + 1 + 1 < cLine; omega) ⟨⟨_, n, e, rfl, rfl, rfl⟩, ?_, fun j k v hj => ?_⟩ ⟨by rw [kl, pl], fun i k v hr => ?_⟩ (fun h' hk x hx => ?_) (by rw [pl]; exact sz_of hz) fun h' tk dd hk => ?_
  · rw [pl, List.size_toArray]; omega
  · rw [List.getElem?_map] at hj
    cases hz2 : (ts.zip us)[j]? with
    | none => rw [hz2] at hj; cases hj
    | some p =>
      rw [hz2] at hj
      cases hj
      obtain ⟨q1, q2⟩ := zat j p hz2
      obtain ⟨r1, r2⟩ := uh j p.1 p.2 q1 q2
      have ga : (ts.map (·.1)).getD j 0 = p.1.1 := by rw [List.getD_eq_getElem?_getD, List.getElem?_map, q1]; rfl
      refine ⟨?_, .inl (by dsimp only; rw [ga]; exact r2)⟩
      dsimp only
      rw [ga]
      obtain ⟨w, w1, w2⟩ := rv.get (i := j) (x := .ref p.1.1) (by rw [List.getElem?_map, q1]; rfl)
      obtain rfl : w = Value.ref p.1.1 := w2
      simpa using w1
  · have hr : prs[i]? = some (k, v) := hr
    rw [List.getElem?_map] at hr
    cases hz2 : (ts.zip us)[i]? with
    | none => rw [hz2] at hr; cases hr
    | some p =>
      rw [hz2] at hr
      cases hr
      exact ⟨p.1.2.1, p.1.2.2.1, by show ((ts.zip us).map _)[i]? = _; rw [List.getElem?_map, hz2]; rfl, rfl⟩
  · obtain ⟨o, vs, m, h1, h2, h3, h4⟩ := isK x hx
    exact ⟨o, vs, m, hk _ _ (Nat.ne_of_lt (Heap.lt_size h1)) (fun z => nomatch z) h1, h2, h3, h4⟩
  · rw [storedAllH_nil_of_nodup _ nd'] at dd
    have hk' : ∀ b o, s.heap.get? b = some o → h'.get? b = some o := fun b o e => hk b o (fun z => nomatch z) e
    have hp := I.hok.fresh (Nat.le_refl s.heap.objs.size)
    obtain ⟨o, es, ep, ho, hx, hdat, hes, _, hn⟩ := dd
    refine ⟨.ref s.heap.objs.size, _, I.laid (t' := tk) (o := .dT (ts.map fun t => (t.2.1, t.2.2.2))) hk' (Nat.le_refl _) ⟨by rw [List.length_map]; exact sz_of hz, ?_, ks, ?_, o, es, ep, ho, hx, hdat, hes, hn⟩, rfl, q _ hp⟩
    · exact beq_eq_false_iff_ne.mpr (Ne.symm (Nat.ne_of_lt I.big))
    · have mk : ∀ {l : List ((Addr × List Key × Addr × V) × Value)}, (∀ p ∈ l, H p.1.2.2.1 = some (.tup (p.1.2.1.map kV)) ∧ RelV p.1.2.2.2 p.2) → KT (upd H s.heap.objs.size (.dT (ts.map fun t => (t.2.1, t.2.2.2)))) (l.map fun p => (p.1.2.1, p.1.2.2.2)) (l.map fun p => (p.1.2.1, p.1.2.2.1, p.2)) := by
        intro l
        induction l with
        | nil => intro _; exact .nil
        | cons p l ih =>
          intro hq
          obtain ⟨q1, q2⟩ := hq p List.mem_cons_self
          exact .cons ⟨rfl, by rw [upd_ne (ne_of_none q1 hp)]; exact q1, q2⟩ (ih fun p hm => hq p (List.mem_cons_of_mem _ hm))
      have := mk (l := ts.zip us) fun p hm => by
        obtain ⟨j, hj⟩ := List.mem_iff_getElem?.mp hm
        obtain ⟨q1, q2⟩ := zat j p hj
        exact ⟨(ht p.1 (List.mem_of_getElem? q1)).2, (uh j p.1 p.2 q1 q2).1⟩
      have e2 : (ts.map fun t => (t.2.1, t.2.2.2)) = (ts.zip us).map fun p => (p.1.2.1, p.1.2.2.2) := by
        have : ts = (ts.zip us).map (·.1) := (List.map_fst_zip (by omega)).symm
        conv => lhs; rw [this]
        rw [List.map_map]; rfl
      rw [e2] at this ⊢
      exact this
def rItemsE : V → List V → Hp → VK → Prop := fun x xs H Q => ∃ (a : Addr) (ps : List (List Key × V)), x = .ref a ∧ xs = [] ∧ isT H a ps ∧ ∀ p, H p = none → Q (.ref p) (upd H p (itemsO p a))
theorem mt_itemsE {X : Cx} : MtR X "dict.items" rItemsE := by
  intro pins s σ H x xs v us Q I rx rxs h
  obtain ⟨a, ps, rfl, rfl, ha, q⟩ := h
  cases rx
  cases rxs
  obtain ⟨z, hd, ks, rel, o, es, ep, ho, hx, hdat, _⟩ := isT_raw I ha
  refine DT.callItems (es := es) (ep := ep) hd ⟨o, ho, hx, hdat⟩ ?_
  exact ⟨.ref s.heap.objs.size, upd H s.heap.objs.size (itemsO s.heap.objs.size a), I.laid (t' := s.toks) (fun b u e => Heap.get?_push_of_some _ e) (Nat.le_refl _) (L2.DX.itemsO_ok (Heap.get?_push_size _ rfl)), rfl, q _ (I.hok.fresh (Nat.le_refl _))⟩
variable {W : WX} {xc : XC} {e : Expr} {ue : TE} {te : DTE} {ul : TA} {tl : DTA} {apos cpos pos p p2 : Pos}
/-- sorted(d.items()) -/
def dSortI (te : DTE) : DTE := fun ρ Q => te ρ fun r ρ1 => withD (look ρ1 r) fun d => match d with
  | .dict kvs => withKT (kvsT kvs) fun t => sortOk (itemsOf t) ∧ Q (.own (sortedD (itemsOf t))) ρ1
  | _ => False
theorem de_sortI (hc : X.calm = true) (hu : X.A.units + 64 < cLine) (he : DE X W xc e ue te) (hm : X.mg "sorted" = none) (hg : Gl X "sorted" := by rfl) (hbase : attributeBase e "items" X.env (eval e X.env) = eval e X.env := by rfl) (hline : (apos.endLine == cpos.line) = true := by rfl)
    (hs : starEach [.Call (.Attribute e "items" apos) [] [] cpos] X.env = (false, eval (.Call (.Attribute e "items" apos) [] [] cpos) X.env) :: starEach [] X.env := by rfl) (hpl : (backTo pos (starEach [] X.env)).any (·.1) = false := by rfl) :
    DE X W xc (.Call (.Name "sorted" p) [.Call (.Attribute e "items" apos) [] [] cpos] [] pos) (tCB (rSortI X.K) (tCons (tBM0 X.K "dict" rItemsE ue) tNil)) (dSortI te) := by
  refine ⟨pe_callB (cr_sortI hc hu) hg hm (by kernel_rfl) (pa_cons (pe_bm0 PySem.F.plainAttrs_dict PySem.F.slot_dict_items PySem.F.type_dict_items mt_itemsE he.p hbase hline) pa_nil hs) (by decide) (by decide) hs hpl, fun G ρ F σ H Q QQ hK hx I q k => ?_⟩
  refine he.s G ρ F σ H _ _ hK hx I q fun v r ρ1 F1 H1 q I1 R1 e1 f1 => ?_
  obtain ⟨d, l, q⟩ := q.out
  have z := I1.vw R1.1 l
  cases d with
  | dict kvs =>
    obtain ⟨t, et, so, q⟩ := withKT.out q
    obtain ⟨a, ps, rfl, h1, h2⟩ := vw_isT z et
    have tyv : tyV X.K "dict" (.ref a) H1 := .inr (.inr (.inl ⟨rfl, h1.elim (fun z => .inr ⟨_, z⟩) fun z => .inl ⟨_, z.2⟩⟩))
    refine ⟨tyv, a, ps, rfl, rfl, h1, fun p hp => ?_⟩
    have k1 : Same H1 (upd H1 p (itemsO p a)) := same_upd hp
    have h1' : isT (upd H1 p (itemsO p a)) a ps := h1.imp (fun z => k1 _ _ z) fun z => ⟨z.1, k1 _ _ z.2⟩
    refine ⟨p, a, ps, F1, t, rfl, upd_same, h1', I1.ex.trans k1, by rw [← hK]; exact h2, so, fun H2 l ys ke hl hl2 hy => ?_⟩
    have ex2 : Same F1 H2 := (I1.ex.trans k1).trans ke
    have hl1 : H1 l = none := by
      cases z : H1 l with
      | none => rfl
      | some u => rw [k1 _ _ z] at hl; cases hl
    have hFl : F1 l = none := I1.freeF hl1
    have nw : ∀ (b : Addr) (o : HO), tupF F1 H2 b = some o → F1 b = some o ∨ H1 b = none ∨ Imm o := fun b o z => by
      rcases tupF_cases (F := F1) (H := H2) b with ⟨xs, z1, z2⟩ | z2
      · rw [z2] at z; cases z; exact .inr (.inr (.tup _))
      · rw [z2] at z; exact .inl z
    have out : Out G.K F1 H1 H2 (.own (sortedD (itemsOf t))) (.ref l) := .gen (tupF_ex ex2) (tupF_in ex2) (k1.trans ke) nw (.own hl1 (by
      rcases tupF_cases (F := F1) (H := H2) l with ⟨xs, z1, _⟩ | z2
      · rw [hl2] at z1; cases z1
      · rw [z2]; exact hFl) hl2 (by rw [hK]; exact hy))
    obtain ⟨F3, I3, e3, R3, f3⟩ := out.ok I1
    exact k _ _ ρ1 F3 H2 q I3 R3 (e1.trans e3) (f3.back e1)
  | none => exact q.elim
  | bool _ => exact q.elim
  | int _ => exact q.elim
  | str _ => exact q.elim
  | list _ => exact q.elim
  | tuple _ => exact q.elim
/-- dict(a list of pairs with different keys) -/
def pairsD : List PyData → Option (List (List Key × PyData))
  | [] => some []
  | .tuple [.tuple es, d] :: r => match keysD es, pairsD r with
    | some k, some t => some ((k, d) :: t)
    | _, _ => none
  | _ :: _ => none
theorem pairsD_items : ∀ (t : List (List Key × PyData)), pairsD (itemsOf t) = some t
  | [] => rfl
  | (k, d) :: r => by
    have e : keysD (k.map keyD) = some k := by
      induction k with
      | nil => rfl
      | cons a k ih => cases a <;> rw [List.map_cons, keyD, keysD, ih] <;> rfl
    show pairsD (itemOf (k, d) :: itemsOf r) = _
    unfold itemOf tkeyD
    simp only [pairsD, e, pairsD_items r]
theorem pairsD_reps {F : Hp} : ∀ {ds : List PyData} {t : List (List Key × PyData)} {vs : List V}, pairsD ds = some t → Reps K F ds vs → ∃ ts : List (Addr × List Key × Addr × V), vs = ts.map (fun t => .ref t.1) ∧ ts.map (·.2.1) = t.map (·.1) ∧ (∀ x ∈ ts, F x.1 = some (.tup [.ref x.2.2.1, x.2.2.2]) ∧ F x.2.2.1 = some (.tup (x.2.1.map kV))) ∧ KVs K F t (ts.map fun t => (t.2.1, t.2.2.2))
  | [], t, vs, h, r => by cases h; simp only [Reps] at r; subst r; exact ⟨[], rfl, rfl, (fun x hx => nomatch hx), rfl⟩
  | .tuple [.tuple es, d] :: r, t, vs, h, q => by
    simp only [pairsD] at h
    obtain ⟨v, ws, rfl, q1, q2⟩ := q.split
    cases z : keysD es with
    | none => rw [z] at h; cases h
    | some k =>
      cases z2 : pairsD r with
      | none => rw [z, z2] at h; cases h
      | some t2 =>
        rw [z, z2] at h
        cases h
        obtain ⟨ts, rfl, h2, h3, h4⟩ := pairsD_reps z2 q2
        simp only [Rep] at q1
        obtain ⟨a, us, rfl, h5, h6⟩ := q1
        obtain ⟨x, u2, rfl, h7, h8⟩ := h6.split
        obtain ⟨y, u3, rfl, h9, h10⟩ := h8.split
        simp only [Reps] at h10
        subst h10
        simp only [Rep] at h7
        obtain ⟨b, us2, rfl, g1, g2⟩ := h7
        rw [keysD_vs z g2] at g1
        refine ⟨(a, k, b, y) :: ts, rfl, by rw [List.map_cons, List.map_cons, h2], fun x hx => ?_, y, _, rfl, h9, h4⟩
        rcases List.mem_cons.mp hx with rfl | hx
        · exact ⟨h5, g1⟩
        · exact h3 x hx
def oDictT : List PyData → (Slot → Prop) → Prop
  | [.list ds], q => withKT (pairsD ds) fun t => ((t.map (·.1)).Nodup ∧ t.length ≤ 100000) ∧ q (.ownT t)
  | _, _ => False
theorem cd_dictT : CallD K rDictT oDictT := by
  intro F H xs ds q QQ e hx o k
  match ds, o, hx with
  | [.list ds], o, hx =>
    obtain ⟨v, rfl, a, vs, rfl, h2, h3⟩ := vws1 hx
    obtain ⟨t, et, ⟨nd, ln⟩, o⟩ := withKT.out o
    obtain ⟨ts, rfl, h4, h5, h6⟩ := pairsD_reps et h3
    have ll : ts.length = t.length := by have := h6.length; rwa [List.length_map] at this
    exact ⟨a, ts, rfl, h2, fun x hx => ⟨e _ _ (h5 x hx).1, e _ _ (h5 x hx).2⟩, by rw [h4]; exact nd, by omega, fun p hp => k _ _ _ o (.dT hp h6)⟩
end
end DL

-- part DLaw
set_option Elab.async false
set_option maxRecDepth 100000
set_option maxHeartbeats 400000
namespace DL
open PySem L2
section
variable {X : Cx} {W : WX} {xc : XC} {a b c e : Expr} {es : List Expr} {ua ub ue : TE} {ta tb te : DTE} {pos p p2 p3 p4 pt : Pos} {K : PySem.W.Frag} {x y : Str}
/-! ### *xs, x = a list -/
def dStar (i j : Nat) (te : DTE) : DTS := fun D ρ => te ρ fun r ρ1 => withD (look ρ1 (frS r)) fun d => match d with
  | .list ds => ∃ (init : List PyData) (last : PyData), ds = init ++ [last] ∧ init.length < 16000 ∧ D.nx ((ρ1.set i (.own init)).set j (.dat last))
  | _ => False
theorem sim_star {i j : Nat} (h : SimE K W xc ue te) : SimS K W xc (tAsg ue (gStar K (gName i) (gName j))) (dStar i j te) := by
  intro G ρ F σ H D DD hK hx I q k
  refine h G ρ F σ H _ _ hK hx I q fun v r ρ1 F1 H1 q I1 R1 e1 f1 => ?_
  obtain ⟨F2, I2, e2, n2, S2, o2⟩ := I1.heldP R1 e1 f1
  obtain ⟨d, l, q⟩ := q.out
  have z := I2.vw S2 l
  cases d with
  | list ds =>
    obtain ⟨init, last, rfl, hz, q⟩ := q
    obtain ⟨a, vs, rfl, g2, g3⟩ := z
    have g1 : vs.take init.length ++ vs.drop init.length = vs := List.take_append_drop _ _
    have t1 := g3.take init.length
    have t2 := g3.drop init.length
    rw [List.take_left' rfl] at t1
    rw [List.drop_left' rfl] at t2
    obtain ⟨y, ys, e5, hy, hn⟩ := t2.split
    simp only [Reps] at hn
    subst hn
    rw [e5] at g1
    refine ⟨a, vs.take init.length, y, rfl, SqL.of (by rw [g1]; exact g2), by rw [t1.length]; exact hz, fun Dd hD => ?_⟩
    subst hK
    obtain ⟨F3, I3, e3, R3, f3⟩ := (Out.lst (K := G.K) (F := F2) (vs := vs.take init.length) hD t1).ok I2
    have I4 := I3.set (i := i) R3 rfl
    have I5 := I4.set (i := j) (r := .dat last) (v := y) ⟨Rep.mono e3.f _ _ hy, fun z => by cases z⟩ rfl
    exact k.nx _ F3 _ _ q I5 (e2.f.trans e3.f)
  | none => exact q.elim
  | bool _ => exact q.elim
  | int _ => exact q.elim
  | str _ => exact q.elim
  | tuple _ => exact q.elim
  | dict _ => exact q.elim
theorem ds_star {i j k : Nat} (hc : X.calm = true) (hN : X.N.Nodup) (he : DE X W xc e ue te) (hi : X.N[i]? = some x := by rfl) (hj : X.N[j]? = some y := by rfl) (hx : Loc X.env.scope x := by exact Or.inl rfl) (hy : Loc X.env.scope y := by exact Or.inl rfl)
    (hf : X.fn x = true ∨ X.env.scope.names.lookup x = some .local := by first | exact .inl rfl | exact .inr rfl | assumption) (hf2 : X.fn y = true ∨ X.env.scope.names.lookup y = some .local := by first | exact .inl rfl | exact .inr rfl | assumption)
    (hs : swapsWithSole [.Tuple [.Starred (.Name x p) p2, .Name y p3] k pt] e pos.line X.env = pure false := by rfl) (hw : swappedStores [.Tuple [.Starred (.Name x p) p2, .Name y p3] k pt] e X.env = pure none := by rfl)
    (h1 : (assignEach [.Tuple [.Starred (.Name x p) p2, .Name y p3] k pt] X.env).map (·.2) = [assign (.Tuple [.Starred (.Name x p) p2, .Name y p3] k pt) X.env] := by rfl)
    (hae : assignEach [.Starred (.Name x p) p2, .Name y p3] X.env = [(true, assign (.Name x p) X.env), (false, assign (.Name y p3) X.env)] := by rfl) :
    DS X W xc (.Assign [.Tuple [.Starred (.Name x p) p2, .Name y p3] k pt] e pos) (tAsg ue (gStar X.K (gName i) (gName j))) (dStar i j te) :=
  ⟨ps_asg he.p (pg_star hc (pg_name hN hi hx hf) (pg_name hN hj hy hf2) hae) hs hw h1, sim_star he.s⟩

/-! ### the script -/
/-- a list of ints, wherever it lies -/
def scrS (K : PySem.W.Frag) (ns : List Int) : Slot := .ext fun F v => ∃ a, v = .ref a ∧ SqL K F a (ns.map V.int)
/-- script[lo:hi] -/
def dSlX (K : PySem.W.Frag) (i : Nat) (ns : List Int) (tl th : DTO) : DTE := fun ρ Q => ρ[i]? = some (scrS K ns) ∧ tl ρ fun lo ρ1 => th ρ1 fun hi ρ2 => Q (.own (cutD (ns.map .int) lo hi)) ρ2
theorem de_slX {i : Nat} {ns : List Int} {lo hi : Option Expr} {ul uh : TO} {tl th : DTO} (hl : DO X W xc lo ul tl) (hh : DO X W xc hi uh th) (hN : X.N[i]? = some x := by rfl) (hv : Vis X.env.scope x := by first | exact Or.inl rfl | exact Or.inr (Or.inl rfl) | exact Or.inr (Or.inr rfl)) (hd : (x == ("__debug__" : Str)) = false := by decide)
    (hcd : (x == ("__classdict__" : Str)) = false := by decide) : DE X W xc (.Subscript (.Name x p) (.Slice lo hi none p2) pos) (tSl (rSlL X.K) (tVar i) ul uh) (dSlX X.K i ns tl th) := by
  refine ⟨pe_slice sl_list (pv i hN hv hd hcd) hl.p hh.p, fun G ρ F σ H Q QQ hK hx I q k => ?_⟩
  obtain ⟨e0, q⟩ := q
  obtain ⟨v, s1, s2⟩ := I.at e0 (by unfold scrS; rintro ⟨⟩)
  refine ⟨v, s1, ?_⟩
  refine hl.s G ρ F σ H _ _ hK hx I q fun lo ρ1 F1 H1 q I1 e1 => ?_
  refine hh.s G ρ1 F1 σ H1 _ _ hK hx I1 q fun hi ρ2 F2 H2 q I2 e2 => ?_
  obtain ⟨a, rfl, sq⟩ := s2 F2 (e1.f.trans e2.f)
  rw [← hK] at *
  refine ⟨a, _, rfl, same_l I2.ex sq, fun p hp => ?_⟩
  obtain ⟨F3, I3, e3, R3, f3⟩ := (Out.lst (K := G.K) (F := F2) (ds := cutD (ns.map .int) lo hi) hp (Reps.of_ints ns).cut).ok I2
  exact k _ _ ρ2 F3 _ q I3 R3 ((e1.trans e2).trans e3) (f3.back (e1.trans e2))

/-! ### the bag: what a taking def promises -/
/-- take(bag, m): any int below m -/
def conTake : Con := fun ss q _ => ∃ m : Int, ss = [.bag, .dat (.int m)] ∧ (0 < m ∧ m < 1000000) ∧ ∀ k : Int, 0 ≤ k → k < m → q (.dat (.int k))
end
end DL

-- part K92H
set_option Elab.async false
set_option maxRecDepth 100000
set_option maxHeartbeats 400000
namespace DL
open PySem L2
theorem units1 {k : Nat} {A : Around} (r : Room k A) : A.units + 1 < cLine := by have := r.un; omega
/-! ### calls of defs that are known by name -/
structure Cal (P : Program) (w : World) (K : PySem.W.Frag) (mg : Str → Option Value) (base : Heap) (CX : CXT) (k : Nat) (x : Str) (ps : List Str) (con : Con) : Prop where
  ex : ∃ f fd, FnOk P w K mg base CX k f fd ps (spOf K ps.length con) ∧ mg x = some (.ref f) ∧ PySem.W.keepIn K (.ref f) = true ∧ Binds K fd ps []
structure CalG (P : Program) (w : World) (K : PySem.W.Frag) (mg : Str → Option Value) (base : Heap) (k : Nat) (x : Str) (ps : List Str) (con : Con) : Prop where
  ex : ∃ f fd, FnG P w K mg base k f fd ps (spOf K ps.length con) ∧ mg x = some (.ref f) ∧ PySem.W.keepIn K (.ref f) = true ∧ Binds K fd ps []
section
variable {X : Cx} {W : WX} {xc : XC} {e : Expr} {es : List Expr} {ue : TE} {te : DTE} {ul : TA} {tl : DTA} {pos p p2 p3 np : Pos} {k : Nat} {ps : List Str} {con : Con} {x n : Str} {K : PySem.W.Frag}
theorem de_fc (c : Cal X.prog X.w X.K X.mg X.base CX0 k x ps con) (hr : Room k X.A) (ha : DA X W xc (e :: es) ul tl) (hg : Gl X x := by rfl) (hdb : (x == ("__debug__" : Str)) = false := by decide) (he : starEach (e :: es) X.env = (false, eval e X.env) :: starEach es X.env := by rfl) (hpl : (backTo pos (starEach es X.env)).any (·.1) = false := by rfl) :
    DE X W xc (.Call (.Name x p) (e :: es) [] pos) (tCall (spOf X.K ps.length con) [] E0 ul) (dFn (fun _ _ _ => False) ps.length con tl) := by
  obtain ⟨f, fd, Fn, hm, hk, hb⟩ := c.ex
  exact de_fn Fn hr hm hk hb ha hg hdb he hpl
theorem de_fcG (c : CalG X.prog X.w X.K X.mg X.base k x ps con) (hr : Room k X.A) (gu : X.A.guards = some []) (ha : DA X W xc (e :: es) ul tl) (hg : Gl X x := by rfl) (hdb : (x == ("__debug__" : Str)) = false := by decide) (he : starEach (e :: es) X.env = (false, eval e X.env) :: starEach es X.env := by rfl) (hpl : (backTo pos (starEach es X.env)).any (·.1) = false := by rfl) :
    DE X W xc (.Call (.Name x p) (e :: es) [] pos) (tCall (spOf X.K ps.length con) [] E0 ul) (dFn (fun _ _ _ => False) ps.length con tl) := by
  obtain ⟨f, fd, Fn, hm, hk, hb⟩ := c.ex
  exact de_fnG Fn hr gu hm hk hb ha hg hdb he hpl
theorem de_fcL (c : Cal X.prog X.w X.K X.mg X.base (L2.CX X.prog X.w) k x ps con) (hr : Room k X.A) (ha : DA X W xc (e :: es) ul tl) (hg : Gl X x := by rfl) (hdb : (x == ("__debug__" : Str)) = false := by decide) (he : starEach (e :: es) X.env = (false, eval e X.env) :: starEach es X.env := by rfl) (hpl : (backTo pos (starEach es X.env)).any (·.1) = false := by rfl) :
    DE X W xc (.Call (.Name x p) (e :: es) [] pos) (tCall (spOf X.K ps.length con) [] E0 ul) (dFn (fun _ _ _ => False) ps.length con tl) := by
  obtain ⟨f, fd, Fn, hm, hk, hb⟩ := c.ex
  exact de_fnL Fn hr hm hk hb ha hg hdb he hpl
theorem de_fcX {K' : PySem.W.Frag} (c : Cal X.prog X.w K' X.mg X.base (L2.CX X.prog X.w) k x ps con) (hK : X.K = K') (hr : Room k X.A) (tk : Takes X W) (ha : DA X W xc (e :: es) ul tl) (hg : Gl X x := by rfl) (hdb : (x == ("__debug__" : Str)) = false := by decide) (he : starEach (e :: es) X.env = (false, eval e X.env) :: starEach es X.env := by rfl) (hpl : (backTo pos (starEach es X.env)).any (·.1) = false := by rfl) :
    DE X W xc (.Call (.Name x p) (e :: es) [] pos) (tCallS (spOf K' ps.length con) (WE W) ul) (dFn xc ps.length con tl) := by
  subst hK
  obtain ⟨f, fd, Fn, hm, hk, hb⟩ := c.ex
  exact de_fnX Fn hr hm hk hb tk ha hg hdb he hpl
theorem de_gc {v : V} {d : PyData} (hg : Gl X x) (h : ∃ u, X.mg x = some u ∧ RelV v u) (hr : ∀ F, Rep X.K F d v) (hd : (x == ("__debug__" : Str)) = false := by decide) : DE X W xc (.Name x pos) (tC v) (dC d) := by
  obtain ⟨u, h1, h2⟩ := h
  exact de_glob hg h1 h2 hr hd
theorem rep_i {F : Hp} {i : Int} : Rep K F (.int i) (.int i) := by simp only [Rep]
theorem rep_s {F : Hp} {i : Str} : Rep K F (.str i) (.str i) := by simp only [Rep]
/-! ### errors of one class C with one field -/
structure Err (P : Program) (w : World) (K : PySem.W.Frag) (mg : Str → Option Value) (base : Heap) (C : Addr) (nm f : Str) : Prop where
  mgC : mg nm = some (.ref C)
  oex : OexC K C
  xf : XfC K C
  exc : ExcC K C
  noF : PySem.W.findIn K (.ref C) f = some none
  init : ∃ fI fd ps, PySem.W.findIn K (.ref C) "__init__" = some (some (.ref fI)) ∧ PySem.W.typeIn K (.ref fI) = some (.type "function") ∧ FnOk P w K mg base CX0 1 fI fd ps (spInit C f) ∧ Binds K fd ps []
theorem ds_rs {C : Addr} {f : Str} (T : Err X.prog X.w X.K X.mg X.base C x f) (hc : X.calm = true) (tk : Takes X W) (hr : Room 2 X.A) (he : DE X W xc e ue te) (hg : Gl X x := by rfl)
    (hdb : (x == ("__debug__" : Str)) = false := by decide) (hs : starEach [e] X.env = (false, eval e X.env) :: starEach [] X.env := by rfl) (hpl : (backTo p3 (starEach [] X.env)).any (·.1) = false := by rfl) :
    DS X W xc (.Raise (some (.Call (.Name x p) [e] [] p3)) none pos) (fun _ σ H => tMkO C (spInit C f) [] (tCons ue tNil) σ H fun cls d H' => W cls d σ H') (dRaise xc C f te) := by
  obtain ⟨fI, fd, ps, h1, h2, h3, h4⟩ := T.init
  exact ds_raise hc tk T.oex h1 h2 h3 hr h4 T.mgC he hg hdb hs hpl
/-- try: .. except SheetError as e: ..; the body raises errors of C alone -/
structure Catch (K : PySem.W.Frag) (mg : Str → Option Value) (C C' : Addr) (nm : Str) : Prop where
  mgc : mg nm = some (.ref C')
  ex : PySem.W.exmOne K (.ref C) (.ref C') = some true
theorem takes_no {X : Cx} : Takes X (fun _ _ _ _ => False) := fun u s' ⟨_, _, _, _, _, _, _, _, _, _, _, _, _, _, _, _, z⟩ => z.elim
theorem ds_tr {i : Nat} {C0 C' : Addr} {body suite : List Stmt} {b₀ : Stmt} {pos' : Pos} {tb : WX → TS} {ts : Addr → Addr → TS} {t : XC → DTS} {h : Addr → Addr → List (Str × PyData) → DTS} (T : Catch X.K X.mg C0 C' x) (hN : X.N.Nodup) (tk : Takes X W)
    (hb : ∀ (W : WX) (pn : List (Addr × Obj)) (xe : Value → Shared → Prop) (xc : XC), Takes (X.tr pn xe) W → DSs (X.tr pn xe) W xc body (tb W) (t xc))
    (hsu : ∀ (a dd : Addr) (oe : Obj) (pn : List (Addr × Obj)), Zc (.ref C0) (some dd) oe → (∃ vs, oe.data = .fields vs) → ∀ fs, DSs (X.suite a ((a, oe) :: pn)) W0 xc0 (b₀ :: suite) (ts a dd) (h a dd fs))
    (hg : Gl X x := by rfl) (hdb : (x == ("__debug__" : Str)) = false := by decide) (hs : X.stack = X.env :: X.outer := by rfl) (hf : X.env.frame = some X.env.locals := by rfl) (hi : X.N[i]? = some n := by rfl) (hln : X.env.kindOf n = some .local := by rfl) :
    DS X W xc (.Try body [.ExceptHandler (some (.Name x np)) (some n) (b₀ :: suite) pos'] [] [] pos) (fun D σ H => tb (wAs X.K (.ref C') i (tsOf C0 ts) W D) D σ H) (dTry X.K C0 i t h) :=
  ds_try hN tk ⟨hg, hdb, .inl T.mgc⟩ T.ex hb hsu (fun a dd => ⟨⟨.ref C0, some dd, .fields #[], #[]⟩, ⟨rfl, rfl⟩, _, rfl⟩) hs hf hi hln
/-! ### stores into the bag: the walk alone -/
def dNo : DTS := fun _ _ => False
theorem sim_no {ts : TS} : SimS K W xc ts dNo := fun _ _ _ _ _ _ _ _ _ _ q => q.elim
def rGetL : V → V → Hp → VK → Prop := fun x y H Q => ∃ p xs i v, x = .ref p ∧ y = .int i ∧ H p = some (.lst xs) ∧ 0 ≤ i ∧ i < 1000 ∧ xs[i.toNat]? = some v ∧ Q v H
theorem pget_list : PGet X rGetL := by
  intro pins s σ H o i ov iv Q I ro ri h
  obtain ⟨p, xs, j, v, rfl, rfl, hq, h0, h1, he, q⟩ := h
  cases ro
  obtain ⟨t, rfl⟩ := ri
  obtain ⟨its, rv, pl, _⟩ := I.list (SqL.of hq)
  obtain ⟨u, u1, u2⟩ := rv.get he
  exact wpAny_getItem_list pl.isList h0 (by omega) (by simpa using u1) ⟨v, H, I, u2, q⟩
variable {b : Expr} {ub : TE} {tb : DTE} {i : Nat}
/-- x[b] = e, x[b] += e: the walk alone -/
theorem ds_six (hb : DE X W xc b ub tb) (he : DE X W xc e ue te) (hN : X.N[i]? = some x := by rfl) (hv : Vis X.env.scope x := by first | exact Or.inl rfl | exact Or.inr (Or.inl rfl) | exact Or.inr (Or.inr rfl)) (hd : (x == ("__debug__" : Str)) = false := by decide) (hcd : (x == ("__classdict__" : Str)) = false := by decide)
    (ha : ∀ v, assign (.Subscript (.Name x np) b p3) X.env v = (do
      let ov ← holding [v] (eval (.Name x np) X.env)
      let iv ← holding [v, ov] (eval b X.env)
      standAt p3
      holding [v, ov, iv] (setItem ov iv v)
      release [v, ov, iv] []) := by intro _; rfl)
    (hs : swapsWithSole [.Subscript (.Name x np) b p3] e pos.line X.env = pure false := by rfl) (hw : swappedStores [.Subscript (.Name x np) b p3] e X.env = pure none := by rfl)
    (h1 : (assignEach [.Subscript (.Name x np) b p3] X.env).map (·.2) = [assign (.Subscript (.Name x np) b p3) X.env] := by rfl) :
    DS X W xc (.Assign [.Subscript (.Name x np) b p3] e pos) (tAsg ue (gSub (tVar i) ub rSetL)) dNo := ⟨ps_asg he.p (pg_sub (pv i hN hv hd hcd) hb.p set_list ha) hs hw h1, sim_no⟩
theorem ds_aug (hb : DE X W xc b ub tb) (he : DE X W xc e ue te) (hN : X.N[i]? = some x := by rfl) (hv : Vis X.env.scope x := by first | exact Or.inl rfl | exact Or.inr (Or.inl rfl) | exact Or.inr (Or.inr rfl)) (hd : (x == ("__debug__" : Str)) = false := by decide) (hcd : (x == ("__classdict__" : Str)) = false := by decide)
    (ha : ∀ ov iv new, augStore b ov iv new = (do holding [new, ov, iv] (setItem ov iv new); release [new, ov, iv] []; pure .next) := by intros; rfl) :
    DS X W xc (.AugAssign (.Subscript (.Name x np) b p3) .Add e pos) (tAugS (tVar i) ub ue rGetL (ipI fun i j => i + j) rSetL) dNo := ⟨ps_augS (pv i hN hv hd hcd) hb.p pget_list he.p ip_add set_list ha, sim_no⟩
end
end DL
namespace K92
open PySem L2 DL
/-! ### the text by places -/
def top (i : Nat) : Stmt := PySem.Challenge.pw_longsheet_k92_contents_and_cells_read.main.body.getD i (.Pass ⟨0, 0, 0, 0⟩)
structure Txt (mg : Str → Option Value) : Prop where
  b_len : mg "len" = none
  b_int : mg "int" = none
  b_str : mg "str" = none
  b_bool : mg "bool" = none
  b_abs : mg "abs" = none
  b_all : mg "all" = none
  b_repr : mg "repr" = none
  b_dict : mg "dict" = none
  b_sorted : mg "sorted" = none
  b_isinstance : mg "isinstance" = none
  b_range : mg "range" = none
  b_enumerate : mg "enumerate" = none
  g_FAR : ∃ u, mg "FAR" = some u ∧ RelV (.int (10 ^ 12)) u
  g_DIGITS : ∃ u, mg "DIGITS" = some u ∧ RelV (.str "0123456789") u
  g_MOST_DIGITS : ∃ u, mg "MOST_DIGITS" = some u ∧ RelV (.int 60) u
end K92

-- part DTac
set_option Elab.async false
set_option maxRecDepth 100000
set_option maxHeartbeats 400000
namespace DL
open PySem L2
/-! ### the transformers, one step at a time -/
section
variable {D : DEnds} {ρ : List Slot} {Q : Slot → List Slot → Prop} {B : Bool → List Slot → Prop} {t u : DTS} {ta tb tc te : DTE} {tt tu : DTT} {tl : DTA} {tlb : DTB} {xc : XC} {i j n : Nat} {q : Slot → Prop} {X Y : Prop}
theorem t_leaf {x y : Slot} (h : q x) (e : y = x) : q y := by rw [e]; exact h
theorem t_lf {x y : PyData} (h : q (.dat x)) (e : y = x) : q (.dat y) := by rw [e]; exact h
theorem t_seq (h : t { D with nx := u D } ρ) : dSeq t u D ρ := h
theorem t_next (h : D.nx ρ) : dNext D ρ := h
theorem t_set (h : te ρ fun r ρ1 => D.nx (put ρ1 i r)) : dSet i te D ρ := h
theorem t_ret (h : te ρ fun r ρ1 => D.rt (rel ρ1 r) (relR ρ1 r)) : dRet te D ρ := h
theorem t_retN (h : D.rt (.dat .none) ρ) : dRetN D ρ := h
theorem t_ifS (h : tt ρ fun b ρ1 => if b = true then t D ρ1 else u D ρ1) : dIfS tt t u D ρ := h
theorem t_tt (h : X) : if true = true then X else Y := h
theorem t_ff (h : Y) : if false = true then X else Y := h
theorem t_ntt (h : X) : if (!false) = true then X else Y := h
theorem t_nff (h : Y) : if (!true) = true then X else Y := h
theorem t_ite {b : Bool} (h1 : b = true → X) (h2 : b = false → Y) : if b = true then X else Y := by
  cases b with
  | true => exact h1 rfl
  | false => exact h2 rfl
theorem t_yesIf {b : Bool} (e : b = true) (h : X) : if b = true then X else Y := by subst e; exact h
theorem t_noIf {b : Bool} (e : b = false) (h : Y) : if b = true then X else Y := by subst e; exact h
def isUn : Slot → Bool
  | .un => true
  | _ => false
theorem t_var (s : Slot) (h : ρ[i]? = some s) (hu : isUn s = false) (k : Q (useS i s) ρ) : dVar i ρ Q := by
  unfold dVar
  rw [h]
  cases s <;> first | exact k | cases hu
theorem t_c {d : PyData} (k : Q (.dat d) ρ) : dC d ρ Q := k
theorem t_bin {o : PyData → PyData → (Slot → Prop) → Prop} (h : ta ρ fun r1 ρ1 => tb ρ1 fun r2 ρ2 => withD (look ρ2 (frS r1)) fun d1 => withD (look ρ2 r2) fun d2 => o d1 d2 fun r => Q r ρ2) : dBin o ta tb ρ Q := h
theorem t_withD {o : Option PyData} {k : PyData → Prop} (d : PyData) (e : o = some d) (h : k d) : withD o k := by subst e; exact h
theorem t_withL {o : Option (List PyData)} {k : List PyData → Prop} (d : List PyData) (e : o = some d) (h : k d) : withL o k := by subst e; exact h
def withBool (o : Option PyData) (k : Bool → Prop) : Prop := match o with
  | some (.bool b) => k b
  | _ => False
theorem t_withBool {o : Option PyData} {k : Bool → Prop} (b : Bool) (e : o = some (.bool b)) (h : k b) : withBool o k := by subst e; exact h
theorem wb_eq {o : Option PyData} {k : Bool → Prop} : (withD o fun d => match d with | .bool b => k b | _ => False) = withBool o k := by
  cases o with
  | none => rfl
  | some d => cases d <;> rfl
theorem t_test (h : te ρ fun r ρ1 => withBool (look ρ1 r) fun b => B b ρ1) : dTest te ρ B := by
  have e : dTest te ρ B = te ρ fun r ρ1 => withBool (look ρ1 r) fun b => B b ρ1 := by
    unfold dTest; congr 1; funext r ρ1; exact wb_eq
  rw [e]; exact h
theorem t_and (h : tt ρ fun b ρ1 => if b = true then tu ρ1 B else B false ρ1) : dAnd tt tu ρ B := h
theorem t_or (h : tt ρ fun b ρ1 => if b = true then B true ρ1 else tu ρ1 B) : dOr tt tu ρ B := h
theorem t_not (h : tt ρ fun b ρ1 => B (!b) ρ1) : dNot tt ρ B := h
theorem t_if (h : tt ρ fun b ρ1 => if b = true then ta ρ1 Q else tb ρ1 Q) : dIf tt ta tb ρ Q := h
theorem t_andV (h : ta ρ fun r ρ1 => withBool (look ρ1 r) fun b => if b = true then tb ρ1 Q else Q (.dat (.bool false)) ρ1) : dAndV ta tb ρ Q := by
  have e : dAndV ta tb ρ Q = ta ρ fun r ρ1 => withBool (look ρ1 r) fun b => if b = true then tb ρ1 Q else Q (.dat (.bool false)) ρ1 := by
    unfold dAndV; congr 1; funext r ρ1; exact wb_eq
  rw [e]; exact h
theorem t_orV (h : ta ρ fun r ρ1 => withBool (look ρ1 r) fun b => if b = true then Q (.dat (.bool true)) ρ1 else tb ρ1 Q) : dOrV ta tb ρ Q := by
  have e : dOrV ta tb ρ Q = ta ρ fun r ρ1 => withBool (look ρ1 r) fun b => if b = true then Q (.dat (.bool true)) ρ1 else tb ρ1 Q := by
    unfold dOrV; congr 1; funext r ρ1; exact wb_eq
  rw [e]; exact h
theorem t_notV (h : ta ρ fun r ρ1 => withBool (look ρ1 r) fun b => Q (.dat (.bool (!b))) ρ1) : dNotV ta ρ Q := by
  have e : dNotV ta ρ Q = ta ρ fun r ρ1 => withBool (look ρ1 r) fun b => Q (.dat (.bool (!b))) ρ1 := by
    unfold dNotV; congr 1; funext r ρ1; exact wb_eq
  rw [e]; exact h
theorem t_isi {T : String} (h : ta ρ fun r ρ1 => withD (look ρ1 (frS r)) fun d => noDict d = true ∧ Q (.dat (.bool (isA T (tyD d)))) ρ1) : dIsi T ta ρ Q := h
variable {R : List Slot → List Slot → Prop}
theorem t_nil (h : R [] ρ) : dNil ρ R := h
theorem t_cons (h : ta ρ fun r ρ1 => tl ρ1 fun rs ρ2 => R (frS r :: rs) ρ2) : dCons ta tl ρ R := h
theorem t_bnil (h : R [] ρ) : bNil ρ R := h
theorem t_bcons (h : ta ρ fun r ρ1 => tlb ρ1 fun rs ρ2 => R (r :: rs) ρ2) : bCons ta tlb ρ R := h
theorem t_par {is : List Nat} (h : tlb ρ fun rs ρ1 => rs.length = is.length ∧ D.nx (setL (vwFL ρ1 rs).2 is (vwFL ρ1 rs).1)) : dParN is tlb D ρ := h
theorem t_call {o : List PyData → (Slot → Prop) → Prop} (h : tl ρ fun rs ρ1 => withL (looks ρ1 rs) fun ds => o ds fun r => Q r ρ1) : dCall o tl ρ Q := h
theorem t_tup (h : tl ρ fun rs ρ1 => withL (datas (frzL ρ1 rs).1) fun ds => ds.length ≤ 100000 ∧ Q (.dat (.tuple ds)) (frzL ρ1 rs).2) : dTup tl ρ Q := h
theorem t_lst (h : tl ρ fun rs ρ1 => withL (datas (frzL ρ1 rs).1) fun ds => ds.length ≤ 100000 ∧ Q (.own ds) (frzL ρ1 rs).2) : dLst tl ρ Q := h
theorem t_fn {con : Con} (h : tl ρ fun rs ρ1 => rs.length = n ∧ con (frzL ρ1 rs).1 (fun r => Q r (frzL ρ1 rs).2) fun C fs => xc C fs (frzL ρ1 rs).2) : dFn xc n con tl ρ Q := h
theorem t_mt {T : String} {o : PyData → List PyData → (Slot → Prop) → Prop} (h : ta ρ fun r1 ρ1 => withD (look ρ1 (frS r1)) fun d0 => (tyD d0 = T ∧ (T = "str" ∨ T = "list")) ∧ tl ρ1 fun rs ρ2 => withD (look ρ2 (frS r1)) fun d => withL (looks ρ2 rs) fun ds => o d ds fun r => Q r ρ2) : dMt T o ta tl ρ Q := h
theorem t_mtS {o : PyData → List PyData → (Slot → Prop) → Prop} (h : ta ρ fun r1 ρ1 => withD (look ρ1 (frS r1)) fun d0 => ∃ z, d0 = .str z ∧ tl ρ1 fun rs ρ2 => withD (look ρ2 (frS r1)) fun d => withL (looks ρ2 rs) fun ds => o d ds fun r => Q r ρ2) : dMt "str" o ta tl ρ Q := by
  have e : (fun r1 ρ1 => withD (look ρ1 (frS r1)) fun d0 => ∃ z, d0 = .str z ∧ tl ρ1 fun rs ρ2 => withD (look ρ2 (frS r1)) fun d => withL (looks ρ2 rs) fun ds => o d ds fun r => Q r ρ2) = (fun r1 ρ1 => withD (look ρ1 (frS r1)) fun d0 => (tyD d0 = "str" ∧ ("str" = "str" ∨ "str" = "list")) ∧ tl ρ1 fun rs ρ2 => withD (look ρ2 (frS r1)) fun d => withL (looks ρ2 rs) fun ds => o d ds fun r => Q r ρ2) := by
    funext r1 ρ1; congr 1; funext d0
    refine propext ⟨fun ⟨z, e, h⟩ => ⟨⟨by subst e; rfl, .inl rfl⟩, h⟩, fun ⟨⟨e, _⟩, h⟩ => ?_⟩
    cases d0 with
    | str z => exact ⟨z, rfl, h⟩
    | bool b => cases b <;> exact absurd e (by decide)
    | none => exact absurd e (by decide)
    | _ => simp only [tyD] at e; exact absurd e (by decide)
  rw [e] at h; exact h
theorem t_mtL {o : PyData → List PyData → (Slot → Prop) → Prop} (h : ta ρ fun r1 ρ1 => withD (look ρ1 (frS r1)) fun d0 => ∃ z, d0 = .list z ∧ tl ρ1 fun rs ρ2 => withD (look ρ2 (frS r1)) fun d => withL (looks ρ2 rs) fun ds => o d ds fun r => Q r ρ2) : dMt "list" o ta tl ρ Q := by
  have e : (fun r1 ρ1 => withD (look ρ1 (frS r1)) fun d0 => ∃ z, d0 = .list z ∧ tl ρ1 fun rs ρ2 => withD (look ρ2 (frS r1)) fun d => withL (looks ρ2 rs) fun ds => o d ds fun r => Q r ρ2) = (fun r1 ρ1 => withD (look ρ1 (frS r1)) fun d0 => (tyD d0 = "list" ∧ ("list" = "str" ∨ "list" = "list")) ∧ tl ρ1 fun rs ρ2 => withD (look ρ2 (frS r1)) fun d => withL (looks ρ2 rs) fun ds => o d ds fun r => Q r ρ2) := by
    funext r1 ρ1; congr 1; funext d0
    refine propext ⟨fun ⟨z, e, h⟩ => ⟨⟨by subst e; rfl, .inr rfl⟩, h⟩, fun ⟨⟨e, _⟩, h⟩ => ?_⟩
    cases d0 with
    | list z => exact ⟨z, rfl, h⟩
    | bool b => cases b <;> exact absurd e (by decide)
    | none => exact absurd e (by decide)
    | _ => simp only [tyD] at e; exact absurd e (by decide)
  rw [e] at h; exact h
theorem t_strL : ((PyData.list [] = .list [] → True) → X) → X := fun h => h fun _ => trivial
theorem t_sl {th tlo : DTO} (h : ta ρ fun r1 ρ1 => tlo ρ1 fun lo ρ2 => th ρ2 fun hi ρ3 => withD (look ρ3 (frS r1)) fun d => oSl d lo hi fun r => Q r ρ3) : dSl ta tlo th ρ Q := h
variable {O : Option Int → List Slot → Prop}
theorem t_noPart (h : O none ρ) : dNoPart ρ O := h
theorem t_part (h : te ρ fun r ρ1 => ∃ i, look ρ1 r = some (.int i) ∧ O (some i) ρ1) : dPart te ρ O := by
  have e : dPart te ρ O = te ρ fun r ρ1 => ∃ i, look ρ1 r = some (.int i) ∧ O (some i) ρ1 := by
    unfold dPart; congr 1; funext r ρ1
    cases look ρ1 r with
    | none => exact propext ⟨fun h => h.elim, fun ⟨i, h, _⟩ => nomatch h⟩
    | some d =>
      cases d with
      | int j => exact propext ⟨fun h => ⟨j, rfl, h⟩, fun ⟨i, h, k⟩ => by cases h; exact k⟩
      | _ => exact propext ⟨fun h => h.elim, fun ⟨i, h, _⟩ => nomatch h⟩
  rw [e]; exact h
theorem t_neg (h : ta ρ fun r ρ1 => ∃ i, look ρ1 r = some (.int i) ∧ Q (.dat (.int (-i))) ρ1) : dNeg ta ρ Q := by
  have e : dNeg ta ρ Q = ta ρ fun r ρ1 => ∃ i, look ρ1 r = some (.int i) ∧ Q (.dat (.int (-i))) ρ1 := by
    unfold dNeg; congr 1; funext r ρ1
    cases look ρ1 r with
    | none => exact propext ⟨fun h => h.elim, fun ⟨i, h, _⟩ => nomatch h⟩
    | some d =>
      cases d with
      | int j => exact propext ⟨fun h => ⟨j, rfl, h⟩, fun ⟨i, h, k⟩ => by cases h; exact k⟩
      | _ => exact propext ⟨fun h => h.elim, fun ⟨i, h, _⟩ => nomatch h⟩
  rw [e]; exact h
theorem t_chain {o o' : PyData → PyData → (Slot → Prop) → Prop} (h : ta ρ fun r1 ρ1 => tb ρ1 fun r2 ρ2 => withD (look ρ2 (frS r1)) fun d1 => withD (look ρ2 (frS r2)) fun d2 => o d1 d2 fun r => ∃ b, r = .dat (.bool b) ∧ if b = true then tc ρ2 fun r3 ρ3 => withD (look ρ3 (frS r2)) fun d2 => withD (look ρ3 r3) fun d3 => o' d2 d3 fun r => Q r ρ3 else Q (.dat (.bool false)) ρ2) : dChain o o' ta tb tc ρ Q := by
  have e : dChain o o' ta tb tc ρ Q = ta ρ fun r1 ρ1 => tb ρ1 fun r2 ρ2 => withD (look ρ2 (frS r1)) fun d1 => withD (look ρ2 (frS r2)) fun d2 => o d1 d2 fun r => ∃ b, r = .dat (.bool b) ∧ if b = true then tc ρ2 fun r3 ρ3 => withD (look ρ3 (frS r2)) fun d2 => withD (look ρ3 r3) fun d3 => o' d2 d3 fun r => Q r ρ3 else Q (.dat (.bool false)) ρ2 := by
    unfold dChain; congr 1; funext r1 ρ1; congr 1; funext r2 ρ2; congr 1; funext d1; congr 1; funext d2; congr 1; funext r
    cases r with
    | dat d =>
      cases d with
      | bool b => exact propext ⟨fun h => ⟨b, rfl, h⟩, fun ⟨i, h, k⟩ => by cases h; exact k⟩
      | _ => exact propext ⟨fun h => h.elim, fun ⟨i, h, _⟩ => nomatch h⟩
    | _ => exact propext ⟨fun h => h.elim, fun ⟨i, h, _⟩ => nomatch h⟩
  rw [e]; exact h
theorem t_fmt (h : ta ρ fun r ρ1 => (∃ z, look ρ1 r = some (.str z) ∧ z.length ≤ 1000000 ∧ Q (.dat (.str z)) ρ1) ∨ ∃ i, look ρ1 r = some (.int i) ∧ i.natAbs.log2 < 1920 ∧ Q (.dat (.str (toString i : String))) ρ1) : dFmt ta ρ Q := by
  have e : dFmt ta ρ Q = ta ρ fun r ρ1 => (∃ z, look ρ1 r = some (.str z) ∧ z.length ≤ 1000000 ∧ Q (.dat (.str z)) ρ1) ∨ ∃ i, look ρ1 r = some (.int i) ∧ i.natAbs.log2 < 1920 ∧ Q (.dat (.str (toString i : String))) ρ1 := by
    unfold dFmt; congr 1; funext r ρ1
    cases look ρ1 r with
    | none => exact propext ⟨fun h => h.elim, fun h => h.elim (fun ⟨i, h, _⟩ => nomatch h) fun ⟨i, h, _⟩ => nomatch h⟩
    | some d =>
      cases d with
      | int j => exact propext ⟨fun h => .inr ⟨j, rfl, h⟩, fun h => h.elim (fun ⟨i, h, _⟩ => nomatch h) fun ⟨i, h, k⟩ => by cases h; exact k⟩
      | str j => exact propext ⟨fun h => .inl ⟨j, rfl, h⟩, fun h => h.elim (fun ⟨i, h, k⟩ => by cases h; exact k) fun ⟨i, h, _⟩ => nomatch h⟩
      | _ => exact propext ⟨fun h => h.elim, fun h => h.elim (fun ⟨i, h, _⟩ => nomatch h) fun ⟨i, h, _⟩ => nomatch h⟩
  rw [e]; exact h
/-! operators on plain data -/
theorem t_eqS {a b : Str} (h : q (.dat (.bool (a == b)))) : oEq (.str a) (.str b) q := ⟨rfl, by simpa only [PyData.eqv] using h⟩
theorem t_eqI {a b : Int} (h : q (.dat (.bool (a == b)))) : oEq (.int a) (.int b) q := ⟨rfl, by simpa only [PyData.eqv] using h⟩
theorem t_neS {a b : Str} (h : q (.dat (.bool (!(a == b))))) : oNe (.str a) (.str b) q := ⟨rfl, by simpa only [PyData.eqv] using h⟩
theorem t_neI {a b : Int} (h : q (.dat (.bool (!(a == b))))) : oNe (.int a) (.int b) q := ⟨rfl, by simpa only [PyData.eqv] using h⟩
theorem t_is {d : PyData} (h : q (.dat (.bool (isNone d)))) : oIs d .none q := by cases d <;> exact h
theorem t_isNot {d : PyData} (h : q (.dat (.bool (!isNone d)))) : oIsNot d .none q := by cases d <;> exact h
theorem t_addI {a b : Int} (h : q (.dat (.int (a + b)))) : oAdd (.int a) (.int b) q := h
theorem t_addS {a b : Str} (z : a.length + b.length ≤ 1000000) (h : q (.dat (.str (a ++ b)))) : oAdd (.str a) (.str b) q := ⟨z, h⟩
theorem t_addL {a b : List PyData} (z : a.length + b.length ≤ 100000) (h : q (.own (a ++ b))) : oAdd (.list a) (.list b) q := ⟨z, h⟩
theorem t_subI {a b : Int} (h : q (.dat (.int (a - b)))) : oSub (.int a) (.int b) q := h
theorem t_ltI {a b : Int} (h : q (.dat (.bool (decide (a < b))))) : oLt (.int a) (.int b) q := h
theorem t_leI {a b : Int} (h : q (.dat (.bool (decide (a ≤ b))))) : oLe (.int a) (.int b) q := h
theorem t_gtI {a b : Int} (h : q (.dat (.bool (decide (b < a))))) : oGt (.int a) (.int b) q := h
theorem t_geI {a b : Int} (h : q (.dat (.bool (decide (b ≤ a))))) : oGe (.int a) (.int b) q := h
theorem t_slS {z : Str} {lo hi : Option Int} (l : z.length ≤ 1000000) (h : q (.dat (.str (cutS z lo hi)))) : oSl (.str z) lo hi q := ⟨l, h⟩
theorem t_slL {z : List PyData} {lo hi : Option Int} (h : q (.own (cutD z lo hi))) : oSl (.list z) lo hi q := h
theorem t_lenS {z : Str} (l : z.length ≤ 1000000) (h : q (.dat (.int (z.length : Nat)))) : oLen [.str z] q := ⟨l, h⟩
theorem t_lenL {z : List PyData} (h : q (.dat (.int (z.length : Nat)))) : oLen [.list z] q := h
theorem t_ixL {z : List PyData} {i : Int} (d : PyData) (e : atI z i = some d) (h : q (.dat d)) : oIx (.list z) (.int i) q := by
  show atD z i fun d => q (.dat d)
  unfold atD; rw [e]; exact h
theorem t_ixT {z : List PyData} {i : Int} (d : PyData) (e : atI z i = some d) (h : q (.dat d)) : oIx (.tuple z) (.int i) q := by
  show atD z i fun d => q (.dat d)
  unfold atD; rw [e]; exact h
theorem t_ixS {z : Str} {i : Int} (c : Nat) (l : z.length ≤ 1000000) (e : atI z.cps.toList i = some c) (h : q (.dat (.str ⟨#[c]⟩))) : oIx (.str z) (.int i) q := by
  refine ⟨l, ?_⟩
  unfold atD; rw [e]; exact h
theorem t_split {z s : Str} (h1 : (s.length == 0) = false) (h2 : z.length ≤ 1000000) (h : q (.own (strsD (Txt.split z s)))) : oSplit (.str z) [.str s] q := ⟨⟨h1, h2⟩, h⟩
theorem t_int {i : Int} (h : q (.dat (.int i))) : oInt [.int i] q := h
theorem t_intS {z : Str} (n : Int) (l : z.length ≤ 640) (e : PySem.intText? z = some n) (h : q (.dat (.int n))) : oInt [.str z] q := ⟨l, n, e, h⟩
theorem t_str {i : Int} (l : i.natAbs.log2 < 1920) (h : q (.dat (.str (toString i : String)))) : oStr [.int i] q := ⟨l, h⟩
theorem t_abs {i : Int} (h : q (.dat (.int (if i < 0 then -i else i)))) : oAbs [.int i] q := h
theorem t_allB {ds : List PyData} (bs : List Bool) (e : bools ds = some bs) (h : q (.dat (.bool (bs.all id)))) : oAll [.list ds] q := by
  show withBs (bools ds) _
  rw [e]; exact h
theorem t_inL {d : PyData} {ds : List PyData} (f : flatD d = true ∧ ds.all flatD = true) (h : q (.dat (.bool (ds.any fun e => PyData.eqv e d)))) : oIn d (.tuple ds) q := by cases d <;> exact ⟨f, h⟩
theorem t_inC {c : Nat} {z : Str} (h : q (.dat (.bool (decide (c ∈ z.cps.toList))))) : oIn (.str ⟨#[c]⟩) (.str z) q := ⟨c, rfl, h⟩
theorem t_notInC {c : Nat} {z : Str} (h : q (.dat (.bool (!decide (c ∈ z.cps.toList))))) : oNotIn (.str ⟨#[c]⟩) (.str z) q := ⟨c, rfl, h⟩
end
section
variable {ρ : List Slot} {te : DTE} {R : List PyData → List Slot → Prop} {B : List Slot → Prop}
theorem t_dstr (h : te ρ fun r ρ1 => ∃ z, look ρ1 r = some (.str z) ∧ R (signs z) ρ1) : dStrI te ρ R := by
  have e : dStrI te ρ R = te ρ fun r ρ1 => ∃ z, look ρ1 r = some (.str z) ∧ R (signs z) ρ1 := by
    unfold dStrI; congr 1; funext r ρ1
    cases look ρ1 r with
    | none => exact propext ⟨fun h => h.elim, fun ⟨i, h, _⟩ => nomatch h⟩
    | some d =>
      cases d with
      | str j => exact propext ⟨fun h => ⟨j, rfl, h⟩, fun ⟨i, h, k⟩ => by cases h; exact k⟩
      | _ => exact propext ⟨fun h => h.elim, fun ⟨i, h, _⟩ => nomatch h⟩
  rw [e]; exact h
theorem t_dseq (h : te ρ fun r ρ1 => withL (seqD (frz ρ1 r).1) fun ds => R ds (frz ρ1 r).2) : dSeqI te ρ R := h
theorem t_yes {B : Bool → List Slot → Prop} (h : B true ρ) : dYes ρ B := h
theorem bools_map {α : Type} (f : α → Bool) : ∀ (l : List α), bools (l.map fun x => .bool (f x)) = some (l.map f)
  | [] => rfl
  | a :: l => by rw [List.map_cons, bools, bools_map f l]; rfl
theorem t_name {i : Nat} {r : Slot} (h : B (ρ.set i r)) : hName i r ρ B := h
theorem signs_get {z : Str} {i : Nat} {d : PyData} (h : (signs z)[i]? = some d) : ∃ c, z.cps.toList[i]? = some c ∧ d = .str ⟨#[c]⟩ := by
  unfold signs at h
  rw [List.getElem?_map] at h
  cases e : z.cps.toList[i]? with
  | none => rw [e] at h; cases h
  | some c => rw [e] at h; cases h; exact ⟨c, rfl, rfl⟩
end
/-! ### comprehensions over texts and lists whose items are all kept, or some -/
section
variable {ρ : List Slot} {Q : Slot → List Slot → Prop} {te : DTE} {dt : DTT} {ti : DTI}
/-- the acc by turns: f on the items, kept where p says so -/
theorem t_lc {g : DTG} {vs : List Nat} (p : PyData → Bool) (f : PyData → PyData) (ds : List PyData) (ρ1 : List Slot) (hi : ∀ (R : List PyData → List Slot → Prop), R ds ρ1 → ti ρ R) (h0 : noOwnAt ρ1 vs = true) (hl : ds.length ≤ 100000)
    (each : ∀ (i : Nat) (d : PyData), ds[i]? = some d → ∀ (acc : List PyData) (Z : List PyData → Prop), acc.length < 100000 → Z (if p d = true then acc ++ [f d] else acc) → g (.dat d) (wipeD ρ1 vs) fun ρ2 => (wipeD ρ2 vs = wipeD ρ1 vs ∧ noOwnAt ρ2 vs = true) ∧ dt ρ2 fun b ρ3 =>
      if b = true then te ρ3 fun r ρ4 => wipeD (frz ρ4 r).2 vs = wipeD ρ1 vs ∧ withDat (frz ρ4 r).1 fun y => acc.length < 100000 ∧ Z (acc ++ [y]) else wipeD ρ3 vs = wipeD ρ1 vs ∧ Z acc)
    (h : Q (.own ((ds.filter p).map f)) ρ1) : dLc ti g dt te vs ρ Q := by
  refine hi _ ⟨h0, fun i acc => acc = ((ds.take i).filter p).map f, rfl, fun i d acc hd iv => ?_, fun acc iv => ?_⟩
  · have hi' : i < ds.length := (List.getElem?_eq_some_iff.mp hd).1
    refine each i d hd acc (fun acc => acc = ((ds.take (i + 1)).filter p).map f) ?_ ?_
    · subst iv
      rw [List.length_map]
      exact Nat.lt_of_le_of_lt (List.length_filter_le _ _) (by rw [List.length_take]; omega)
    · have e : ds.take (i + 1) = ds.take i ++ [d] := by rw [List.take_add_one, hd]; rfl
      subst iv
      rw [e, List.filter_append, List.map_append]
      by_cases hp : p d = true
      · rw [if_pos hp, List.filter_cons_of_pos hp]; rfl
      · rw [if_neg hp, List.filter_cons_of_neg hp]; simp
  · subst iv
    rw [List.take_length]; exact h
end
end DL

-- part DTac2
set_option Elab.async false
set_option maxRecDepth 100000
set_option maxHeartbeats 400000
namespace DL
open PySem L2
section
variable {D : DEnds} {ρ : List Slot} {Q : Slot → List Slot → Prop} {B : Bool → List Slot → Prop} {t u : DTS} {ta tb tc te tn tk tv td : DTE} {tt tu : DTT} {tl : DTA} {tlb : DTB} {xc : XC} {i j n : Nat} {q : Slot → Prop} {X Y : Prop} {R : List PyData → List Slot → Prop} {K : PySem.W.Frag}
theorem t_len {m : Nat} (e : Nat.ble m 100000 = true) (h : X) : m ≤ 100000 ∧ X := ⟨Nat.le_of_ble_eq_true e, h⟩
theorem t_in2 {b c f : Str} (k : q (.dat (.bool (b == c || b == f)))) : oIn (.str b) (.tuple [.str c, .str f]) q := by
  refine t_inL ⟨rfl, rfl⟩ ?_
  have e : ([PyData.str c, PyData.str f].any fun e => PyData.eqv e (.str b)) = (b == c || b == f) := by
    show (PyData.eqv (.str c) (.str b) || (PyData.eqv (.str f) (.str b) || false)) = _
    simp only [PyData.eqv, Bool.or_false]
    congr 1 <;> exact BEq.comm
  rw [e]; exact k
theorem log2_small {i : Int} (h : i.natAbs < 2 ^ 64) : i.natAbs.log2 < 1920 := by
  rcases Nat.eq_zero_or_pos i.natAbs with h0 | hp
  · rw [h0]; decide
  · have := (Nat.log2_lt (k := 64) (Nat.ne_of_gt hp)).mpr h
    omega
theorem t_fmtS {o : Option PyData} {z : Str} {P : Str → Prop} {P2 : Int → Prop} (e : o = some (.str z)) (l : z.length ≤ 1000000) (h : P z) : (∃ y, o = some (.str y) ∧ y.length ≤ 1000000 ∧ P y) ∨ ∃ i : Int, o = some (.int i) ∧ i.natAbs.log2 < 1920 ∧ P2 i := .inl ⟨z, e, l, h⟩
theorem t_fmtI {o : Option PyData} {n : Int} {P : Str → Prop} {P2 : Int → Prop} (e : o = some (.int n)) (l : n.natAbs < 2 ^ 64) (h : P2 n) : (∃ y, o = some (.str y) ∧ y.length ≤ 1000000 ∧ P y) ∨ ∃ i : Int, o = some (.int i) ∧ i.natAbs.log2 < 1920 ∧ P2 i := .inr ⟨n, e, log2_small l, h⟩
theorem nT_len {n : Int} (h : n.natAbs < 10 ^ 13) : (Str.ofString (toString n)).length ≤ 14 := by
  have := PySem.int_text_length_le10 (by decide) h
  rw [PySem.ofString_length]; exact this
theorem t_asg {g : DTG} (h : te ρ fun r ρ1 => g (frz ρ1 r).1 (frz ρ1 r).2 D.nx) : dAsg te g D ρ := h
theorem t_htup {g : DTGs} {r : Slot} {N : List Slot → Prop} (h : ∃ ds, r = .dat (.tuple ds) ∧ ds.length = n ∧ g ds ρ N) : hTup n g r ρ N := by
  obtain ⟨ds, rfl, h⟩ := h; exact h
theorem t_hnil {N : List Slot → Prop} (h : N ρ) : hNil [] ρ N := ⟨rfl, h⟩
theorem t_hcons {g : DTG} {gs : DTGs} {d : PyData} {ds : List PyData} {N : List Slot → Prop} (h : g (.dat d) ρ fun ρ' => gs ds ρ' N) : hCons g gs (d :: ds) ρ N := h
def wdStr (o : Option PyData) (P : Str → Prop) : Prop := ∃ z, o = some (.str z) ∧ P z
theorem wd_str {o : Option PyData} {P : Str → Prop} : (withD o fun d => match d with | .str z => P z | _ => False) = ∃ z, o = some (.str z) ∧ P z := by
  cases o with
  | none => exact propext ⟨fun h => h.elim, fun ⟨i, h, _⟩ => nomatch h⟩
  | some d =>
    cases d with
    | str j => exact propext ⟨fun h => ⟨j, rfl, h⟩, fun ⟨i, h, k⟩ => by cases h; exact k⟩
    | _ => exact propext ⟨fun h => h.elim, fun ⟨i, h, _⟩ => nomatch h⟩
theorem wd_int {o : Option PyData} {P : Int → Prop} : (withD o fun d => match d with | .int z => P z | _ => False) = ∃ z, o = some (.int z) ∧ P z := by
  cases o with
  | none => exact propext ⟨fun h => h.elim, fun ⟨i, h, _⟩ => nomatch h⟩
  | some d =>
    cases d with
    | int j => exact propext ⟨fun h => ⟨j, rfl, h⟩, fun ⟨i, h, k⟩ => by cases h; exact k⟩
    | _ => exact propext ⟨fun h => h.elim, fun ⟨i, h, _⟩ => nomatch h⟩
theorem wd_list {o : Option PyData} {P : List PyData → Prop} : (withD o fun d => match d with | .list z => P z | _ => False) = ∃ z, o = some (.list z) ∧ P z := by
  cases o with
  | none => exact propext ⟨fun h => h.elim, fun ⟨i, h, _⟩ => nomatch h⟩
  | some d =>
    cases d with
    | list j => exact propext ⟨fun h => ⟨j, rfl, h⟩, fun ⟨i, h, k⟩ => by cases h; exact k⟩
    | _ => exact propext ⟨fun h => h.elim, fun ⟨i, h, _⟩ => nomatch h⟩
theorem wd_dict {o : Option PyData} {P : List (PyData × PyData) → Prop} : (withD o fun d => match d with | .dict z => P z | _ => False) = ∃ z, o = some (.dict z) ∧ P z := by
  cases o with
  | none => exact propext ⟨fun h => h.elim, fun ⟨i, h, _⟩ => nomatch h⟩
  | some d =>
    cases d with
    | dict j => exact propext ⟨fun h => ⟨j, rfl, h⟩, fun ⟨i, h, k⟩ => by cases h; exact k⟩
    | _ => exact propext ⟨fun h => h.elim, fun ⟨i, h, _⟩ => nomatch h⟩
theorem wd_tup {r : Slot} {P : List PyData → Prop} : (withDat r fun d => match d with | .tuple z => P z | _ => False) = ∃ z, r = .dat (.tuple z) ∧ P z := by
  cases r with
  | dat d =>
    cases d with
    | tuple j => exact propext ⟨fun h => ⟨j, rfl, h⟩, fun ⟨i, h, k⟩ => by cases h; exact k⟩
    | _ => exact propext ⟨fun h => h.elim, fun ⟨i, h, _⟩ => nomatch h⟩
  | _ => exact propext ⟨fun h => h.elim, fun ⟨i, h, _⟩ => nomatch h⟩
theorem t_star (h : te ρ fun r ρ1 => ∃ z, look ρ1 (frS r) = some (.list z) ∧ ∃ (init : List PyData) (last : PyData), z = init ++ [last] ∧ init.length < 16000 ∧ D.nx ((ρ1.set i (.own init)).set j (.dat last))) : dStar i j te D ρ := by
  simp only [← wd_list] at h
  exact h
theorem t_jcons {tj : DTJ} {acc : Str} {J : Str → List Slot → Prop} (h : ta ρ fun r ρ1 => ∃ z, look ρ1 r = some (.str z) ∧ acc.length + z.length ≤ 1000000 ∧ tj (acc ++ z) ρ1 J) : dJCons ta tj acc ρ J := by
  simp only [← wd_str] at h
  exact h
theorem t_ins (h : withOwn ρ[i]? fun _ => tn ρ fun rn ρ1 => te ρ1 fun r ρ2 => ∃ n, look ρ2 (frS rn) = some (.int n) ∧ withDat (frz ρ2 r).1 fun y => withOwn (frz ρ2 r).2[i]? fun ds => (ds.length < 100000 ∧ 0 ≤ n ∧ n < 1000000) ∧ D.nx ((frz ρ2 r).2.set i (.own (insD ds n.toNat y)))) : dIns i tn te D ρ := by
  simp only [← wd_int] at h
  exact h
theorem t_putT (h : tv ρ fun rv ρ1 => withT (frz ρ1 rv).2[i]? fun _ => withDat (frz ρ1 rv).1 fun y => tk (frz ρ1 rv).2 fun rk ρ2 => ∃ es, rk = .dat (.tuple es) ∧ withK (keysD es) fun k => withT ρ2[i]? fun kvs => kvs.length < 100000 ∧ D.nx (ρ2.set i (.ownT (putD kvs k y)))) : dPutT i tk tv D ρ := by
  simp only [← wd_tup] at h
  exact h
theorem t_sortI (h : te ρ fun r ρ1 => ∃ kvs, look ρ1 r = some (.dict kvs) ∧ withKT (kvsT kvs) fun t => sortOk (itemsOf t) ∧ Q (.own (sortedD (itemsOf t))) ρ1) : dSortI te ρ Q := by
  simp only [← wd_dict] at h
  exact h
theorem t_withK {o : Option (List Key)} {k : List Key → Prop} (d : List Key) (e : o = some d) (h : k d) : withK o k := by subst e; exact h
theorem t_withKT {o : Option (List (List Key × PyData))} {k : List (List Key × PyData) → Prop} (d : List (List Key × PyData)) (e : o = some d) (h : k d) : withKT o k := by subst e; exact h
theorem t_rng1 (h : tl ρ fun rs ρ1 => ∃ j, looks ρ1 rs = some [.int j] ∧ (-(2 ^ 62) ≤ j ∧ j < 2 ^ 62) ∧ R (ups 0 j.toNat) ρ1) : dRng1 tl ρ R := by
  have e : ∀ rs ρ1, (withL (looks ρ1 rs) fun ds => match ds with
    | [.int j] => (-(2 ^ 62) ≤ j ∧ j < 2 ^ 62) ∧ R (ups 0 j.toNat) ρ1
    | _ => False) = ∃ j, looks ρ1 rs = some [.int j] ∧ (-(2 ^ 62) ≤ j ∧ j < 2 ^ 62) ∧ R (ups 0 j.toNat) ρ1 := fun rs ρ1 => by
      generalize looks ρ1 rs = o
      refine propext ⟨fun h => ?_, fun ⟨j, e, h⟩ => by subst e; exact h⟩
      match o, h with
      | some [.int j], h => exact ⟨j, rfl, h⟩
  simp only [← e] at h
  exact h
theorem t_getT (h : td ρ fun r1 ρ1 => tk ρ1 fun rk ρ2 => ∃ kvs es t k y, look ρ2 (frS r1) = some (.dict kvs) ∧ rk = .dat (.tuple es) ∧ kvsT kvs = some t ∧ keysD es = some k ∧ getD t k = some y ∧ Q (.dat y) ρ2) : dGetT td tk ρ Q := by
  have e : ∀ r1 rk ρ2, (withD (look ρ2 (frS r1)) fun dd => withDat rk fun dk => match dd, dk with
    | .dict kvs, .tuple es => withKT (kvsT kvs) fun t => withK (keysD es) fun k => withD (getD t k) fun y => Q (.dat y) ρ2
    | _, _ => False) = ∃ kvs es t k y, look ρ2 (frS r1) = some (.dict kvs) ∧ rk = .dat (.tuple es) ∧ kvsT kvs = some t ∧ keysD es = some k ∧ getD t k = some y ∧ Q (.dat y) ρ2 := fun r1 rk ρ2 => by
      refine propext ⟨fun h => ?_, fun ⟨kvs, es, t, k, y, e1, e2, e0, e3, e4, h⟩ => ?_⟩
      · obtain ⟨dd, e1, h⟩ := h.out
        obtain ⟨dk, e2, h⟩ := h.out
        match dd, dk, e1, e2, h with
        | .dict kvs, .tuple es, e1, e2, h =>
          obtain ⟨t, e3, h⟩ := withKT.out h
          obtain ⟨k, e4, h⟩ := withK.out h
          obtain ⟨y, e5, h⟩ := withD.out h
          exact ⟨kvs, es, t, k, y, e1, e2, e3, e4, e5, h⟩
      · subst e2
        rw [e1]
        show withKT (kvsT _) _
        rw [e0]
        show withK (keysD es) _
        rw [e3]
        show withD (getD t k) _
        rw [e4]; exact h
  simp only [← e] at h
  exact h
theorem t_raise {C : Addr} {f : Str} (h : te ρ fun r ρ1 => withDat (frz ρ1 r).1 fun y => xc C [(f, y)] (frz ρ1 r).2) : dRaise xc C f te D ρ := h
theorem t_wdat {d : PyData} {k : PyData → Prop} (h : k d) : withDat (.dat d) k := h
theorem t_withDat {r : Slot} {k : PyData → Prop} (d : PyData) (e : r = .dat d) (h : k d) : withDat r k := by subst e; exact h
theorem t_withOwn {o : Option Slot} {k : List PyData → Prop} (d : List PyData) (e : o = some (.own d)) (h : k d) : withOwn o k := by subst e; exact h
theorem t_withT {o : Option Slot} {k : List (List Key × PyData) → Prop} (d : List (List Key × PyData)) (e : o = some (.ownT d)) (h : k d) : withT o k := by subst e; exact h
theorem t_app (h : withOwn ρ[i]? fun _ => te ρ fun r ρ1 => withDat (frz ρ1 r).1 fun y => withOwn (frz ρ1 r).2[i]? fun ds => ds.length < 100000 ∧ D.nx ((frz ρ1 r).2.set i (.own (ds ++ [y])))) : dApp i te D ρ := h
theorem t_newT (h : Q (.ownT []) ρ) : dNewT ρ Q := h
theorem t_clrT (h : withT ρ[i]? fun _ => D.nx (ρ.set i (.ownT []))) : dClrT i D ρ := h
theorem t_drop (h : te ρ fun _ ρ1 => D.nx ρ1) : dDrop te D ρ := h
theorem t_brk (h : D.bk ρ) : dBreak D ρ := h
theorem t_cont (h : D.ct ρ) : dCont D ρ := h
theorem t_enum (h : tl ρ fun rs ρ1 => withL (oneL (frzL ρ1 rs).1) fun ds => R (numbered ds) (frzL ρ1 rs).2) : dEnum tl ρ R := h
theorem t_joined {tj : DTJ} (h : tj Str.empty ρ fun out ρ1 => Q (.dat (.str out)) ρ1) : dJoined tj ρ Q := h
theorem t_jnil {acc : Str} {J : Str → List Slot → Prop} (h : J acc ρ) : dJNil acc ρ J := h
theorem t_isE {a dd : Addr} {fs : List (Str × PyData)} {b : Bool} (h : ρ[i]? = some (excS K a dd fs) ∧ Q (.dat (.bool b)) ρ) : dIsE K i a dd fs b ρ Q := h
theorem t_xf {a dd : Addr} {fs : List (Str × PyData)} {f : Str} (h : ρ[i]? = some (excS K a dd fs) ∧ withD (fs.lookup f) fun d => Q (.dat d) ρ) : dXf K i a dd fs f ρ Q := h
theorem t_try {C0 : Addr} {t : XC → DTS} {hd : Addr → Addr → List (Str × PyData) → DTS} (h : t (fun C fs ρ1 => C = C0 ∧ ∀ a dd, hd a dd fs { nx := fun ρ2 => D.nx (ρ2.set i .un), rt := D.rt, bk := fun ρ2 => D.bk (ρ2.set i .un), ct := fun ρ2 => D.ct (ρ2.set i .un) } (ρ1.set i (excS K a dd fs))) D ρ) : dTry K C0 i t hd D ρ := h
end
end DL

-- part K92M
set_option Elab.async false
set_option maxRecDepth 100000
set_option maxHeartbeats 400000
namespace K92
open PySem L2 DL
/-! ### whole numbers in texts, plainly -/
abbrev tl (w : Str) : List Nat := w.cps.toList
theorem tl_inj {a b : Str} (h : tl a = tl b) : a = b := by
  cases a; cases b
  simp only [tl] at h
  congr
  exact Array.toList_inj.mp h
theorem tl_len (w : Str) : (tl w).length = w.length := Array.length_toList
theorem cut_tl (w : Str) (lo hi : Option Int) : tl (cutS w lo hi) = ((tl w).drop (HT.sIx (tl w).length 0 lo)).take (HT.sIx (tl w).length (tl w).length hi - HT.sIx (tl w).length 0 lo) := by
  rw [tl_len]; rfl
theorem cut1 (w : Str) : tl (cutS w none (some 1)) = (tl w).take 1 := by
  rw [cut_tl]
  have e : HT.sIx (tl w).length (tl w).length (some 1) = min 1 (tl w).length := HT.sIx_nat _ _ 1
  rw [e, HT.sIx_none, List.drop_zero, Nat.sub_zero]
  cases tl w with
  | nil => rfl
  | cons a l => rw [List.length_cons, Nat.min_eq_left (by omega)]
theorem cut2 (w : Str) : tl (cutS w (some 1) none) = (tl w).drop 1 := by
  rw [cut_tl]
  have e : HT.sIx (tl w).length 0 (some 1) = min 1 (tl w).length := HT.sIx_nat _ _ 1
  rw [e, HT.sIx_none]
  cases tl w with
  | nil => rfl
  | cons a l => rw [List.length_cons, Nat.min_eq_left (by omega), List.drop_succ_cons, List.drop_zero, List.take_of_length_le (by omega)]
def isNeg (w : Str) : Bool := cutS w none (some 1) == ("-" : Str)
def pl (w : Str) : Str := if isNeg w = true then cutS w (some 1) none else w
theorem isNeg_iff (w : Str) : isNeg w = true ↔ ∃ r, tl w = 45 :: r := by
  unfold isNeg
  rw [beq_iff_eq]
  constructor
  · intro h
    have h2 : tl (cutS w none (some 1)) = [45] := by rw [h]; rfl
    rw [cut1] at h2
    cases e : tl w with
    | nil => rw [e] at h2; cases h2
    | cons a l => rw [e] at h2; simp at h2; subst h2; exact ⟨l, rfl⟩
  · rintro ⟨r, h⟩
    refine tl_inj ?_
    rw [cut1, h]; rfl
theorem pl_neg {w : Str} (h : isNeg w = true) : tl w = 45 :: tl (pl w) := by
  obtain ⟨r, e⟩ := (isNeg_iff w).mp h
  unfold pl
  rw [if_pos h, cut2, e]; rfl
theorem pl_pos {w : Str} (h : isNeg w = false) : pl w = w := by unfold pl; rw [h]; rfl
theorem pl_len (w : Str) : (pl w).length ≤ w.length := by
  rw [← tl_len, ← tl_len]
  cases h : isNeg w with
  | true => rw [pl_neg h]; simp
  | false => rw [pl_pos h]; exact Nat.le_refl _
theorem len_pl (w : Str) : w.length ≤ (pl w).length + 1 := by
  rw [← tl_len, ← tl_len]
  cases h : isNeg w with
  | true => rw [pl_neg h]; simp
  | false => rw [pl_pos h]; omega
def DG : Str := "0123456789"
def inDig (c : Nat) : Bool := decide (c ∈ DG.cps.toList)
theorem inDig_iff (c : Nat) : inDig c = true ↔ 48 ≤ c ∧ c ≤ 57 := by
  unfold inDig
  rw [decide_eq_true_eq]
  have e : DG.cps.toList = [48, 49, 50, 51, 52, 53, 54, 55, 56, 57] := by decide +kernel
  rw [e]
  simp only [List.mem_cons, List.not_mem_nil, or_false]
  omega
/-- digits alone, one to sixty -/
def digs (p : Str) : Bool := decide (1 ≤ (tl p).length) && decide ((tl p).length ≤ 60) && (tl p).all inDig
/-- a zero that does not stand alone -/
def led (w : Str) : Bool := ((tl (pl w)).head? == some 48) && !(w == ("0" : Str))
def rdI (w : Str) : PyData := if digs (pl w) = true ∧ led w = false then .int ((intText? w).getD 0) else .none
theorem int_of {w : Str} (h : digs (pl w) = true) : ∃ n, intText? w = some n := by
  unfold digs at h
  simp only [Bool.and_eq_true, decide_eq_true_eq, List.all_eq_true] at h
  obtain ⟨⟨h1, h2⟩, h3⟩ := h
  have hd : NumText.AllDigits (tl (pl w)) := fun c hc => (inDig_iff c).mp (h3 c hc)
  have hne : tl (pl w) ≠ [] := fun z => by rw [z] at h1; simp at h1
  have hl := len_pl w
  rw [tl_len] at h2
  cases hn : isNeg w with
  | true => exact ⟨_, intText_neg (pl_neg hn) hd hne (by omega)⟩
  | false =>
    rw [pl_pos hn] at hd hne
    exact ⟨_, intText_digits hd hne (by omega)⟩
theorem rdI_some {w : Str} {n : Int} (h1 : digs (pl w) = true) (h2 : led w = false) (h : intText? w = some n) : rdI w = .int n := by
  unfold rdI
  rw [if_pos ⟨h1, h2⟩, h]; rfl
theorem rdI_none {w : Str} (h : digs (pl w) = false ∨ led w = true) : rdI w = .none := by
  unfold rdI
  rw [if_neg]
  rintro ⟨h1, h2⟩
  rcases h with h | h
  · rw [h1] at h; cases h
  · rw [h2] at h; cases h
end K92

-- part K92N
set_option Elab.async false
set_option maxRecDepth 100000
set_option maxHeartbeats 400000
namespace K92
open PySem L2 DL
def rdO (w : Str) : Option Int := if digs (pl w) = true ∧ led w = false then some ((intText? w).getD 0) else none
def opt : Option Int → PyData
  | some n => .int n
  | none => .none
theorem rdI_opt (w : Str) : rdI w = opt (rdO w) := by unfold rdI rdO; split <;> rfl
def natO (w : Str) : Option Int := match rdO w with
  | some n => if 0 ≤ n then some n else none
  | none => none
def rowO (w : Str) : Option Int := if (w == ("head" : Str)) = true then some (-1) else natO w
def farO : Option Int → Bool
  | some n => decide (-1000000000000 ≤ n) && decide (n ≤ 1000000000000)
  | none => false
theorem far_some (n : Int) : farO (some n) = (decide (-10 ^ 12 ≤ n) && decide (n ≤ 10 ^ 12)) := rfl
def cinO : List Str → Option ((Int × Int) × Int)
  | [a, b, c] => match natO a, rowO b, rdO c with
    | some x, some y, some n => if farO (some n) = true then some ((x, y), n) else none
    | _, _, _ => none
  | _ => none
def pairD (p : Int × Int) : PyData := .tuple [.int p.1, .int p.2]
def cinD : Option ((Int × Int) × Int) → PyData
  | some (p, n) => .tuple [pairD p, .int n]
  | none => .none
theorem opt_some (n : Int) : opt (some n) = .int n := rfl
theorem opt_none : opt none = .none := rfl
theorem isNone_opt (o : Option Int) : isNone (opt o) = o.isNone := by cases o <;> rfl
theorem strs_len (l : List Str) : (strsD l).length = l.length := List.length_map _
end K92
namespace K92
open PySem L2 DL
def cellO (ws : List Str) (r : Int) : Option (Int × Int) := match ws with
  | [a, b] => match natO a with
    | some x => if (b == ("head" : Str)) = true then some (x, -1) else if (b == ("foot" : Str)) = true then some (x, r) else
      match natO b with
      | some y => if r ≤ y then none else some (x, y)
      | none => none
    | none => none
  | _ => none
def optP : Option (Int × Int) → PyData
  | some p => pairD p
  | none => .none
theorem optP_some (p : Int × Int) : optP (some p) = .tuple [.int p.1, .int p.2] := rfl
theorem optP_none : optP none = .none := rfl
/-- what reading a cell gives: the error's line, or the cell -/
def cellR : PyData → Int → Except Int (Int × Int)
  | .str w, r => match cellO (Txt.split w " ") r with
    | some p => .ok p
    | none => .error 1
  | _, _ => .error 0
def nT (n : Int) : Str := Str.ofString (toString n)
theorem cat_len (a b : Str) : (a ++ b).length = a.length + b.length := by
  show (a.cps ++ b.cps).size = _
  rw [Array.size_append]; rfl
theorem nT_le {n : Int} (h : n.natAbs < 10 ^ 13) : (nT n).length ≤ 14 := nT_len h
/-- a row's name where r rows are -/
def rowT (y r : Int) : Str := if y = -1 then "head" else if y = r then "foot" else nT y
def cellT (p : Int × Int) (r : Int) : Str := Str.empty ++ nT p.1 ++ (" " : Str) ++ rowT p.2 r
end K92

-- part K92A
set_option Elab.async false
set_option maxRecDepth 100000
set_option maxHeartbeats 400000
-- drives
local macro_rules | `(tactic| walk_at "drive") => `(tactic| (repeat (first | with_reducible refine DL.t_asg ?_ | with_reducible refine DL.t_hnil ?_ | with_reducible refine DL.t_hcons ?_ | with_reducible refine DL.t_star ?_ | with_reducible refine DL.t_raise ?_ | with_reducible refine DL.t_wdat ?_ | with_reducible refine DL.t_app ?_ | with_reducible refine DL.t_newT ?_ | with_reducible refine DL.t_clrT ?_ | with_reducible refine DL.t_drop ?_ | with_reducible refine DL.t_brk ?_ | with_reducible refine DL.t_cont ?_ | with_reducible refine DL.t_enum ?_ | with_reducible refine DL.t_joined ?_ | with_reducible refine DL.t_jnil ?_ | with_reducible refine DL.t_jcons ?_ | with_reducible refine DL.t_ins ?_ | with_reducible refine DL.t_putT ?_ | with_reducible refine DL.t_sortI ?_ | with_reducible refine DL.t_rng1 ?_ | with_reducible refine DL.t_getT ?_ | with_reducible refine DL.t_htup ?_ | with_reducible refine DL.t_try ?_ | with_reducible refine DL.t_isE ?_ | with_reducible refine DL.t_xf ?_ | with_reducible refine DL.t_seq ?_ | with_reducible refine DL.t_next ?_ | with_reducible refine DL.t_set ?_ | with_reducible refine DL.t_ret ?_ | with_reducible refine DL.t_retN ?_ | with_reducible refine DL.t_ifS ?_ | with_reducible refine DL.t_tt ?_ | with_reducible refine DL.t_ff ?_ | with_reducible refine DL.t_ntt ?_ | with_reducible refine DL.t_nff ?_ | with_reducible refine DL.t_yes ?_ | with_reducible refine DL.t_name ?_ | with_reducible refine DL.t_test ?_ | with_reducible refine DL.t_and ?_ | with_reducible refine DL.t_or ?_ | with_reducible refine DL.t_not ?_ | with_reducible refine DL.t_if ?_ | with_reducible refine DL.t_andV ?_ | with_reducible refine DL.t_orV ?_ | with_reducible refine DL.t_notV ?_ | with_reducible refine DL.t_isi ?_ | with_reducible refine DL.t_chain ?_ | with_reducible refine DL.t_bin ?_ | with_reducible refine DL.t_c ?_ | with_reducible refine DL.t_nil ?_ | with_reducible refine DL.t_cons ?_ | with_reducible refine DL.t_bnil ?_ | with_reducible refine DL.t_bcons ?_ | with_reducible refine DL.t_par ?_ | with_reducible refine DL.t_call ?_ | with_reducible refine DL.t_tup ?_ | with_reducible refine DL.t_lst ?_ | with_reducible refine DL.t_fn ?_ | with_reducible refine DL.t_mtS ?_ | with_reducible refine DL.t_mtL ?_ | with_reducible refine DL.t_sl ?_ | with_reducible refine DL.t_noPart ?_ | with_reducible refine DL.t_part ?_ | with_reducible refine DL.t_neg ?_ | with_reducible refine DL.t_fmt ?_ | with_reducible refine DL.t_eqS ?_ | with_reducible refine DL.t_eqI ?_ | with_reducible refine DL.t_neS ?_ | with_reducible refine DL.t_neI ?_ | with_reducible refine DL.t_is ?_ | with_reducible refine DL.t_isNot ?_ | with_reducible refine DL.t_addI ?_ | with_reducible refine DL.t_subI ?_ | with_reducible refine DL.t_ltI ?_ | with_reducible refine DL.t_leI ?_ | with_reducible refine DL.t_gtI ?_ | with_reducible refine DL.t_geI ?_ | with_reducible refine DL.t_slL ?_ | with_reducible refine DL.t_lenL ?_ | with_reducible refine DL.t_int ?_ | with_reducible refine DL.t_abs ?_ | ((with_reducible apply DL.t_var); exact rfl; exact rfl) | ((with_reducible apply DL.t_withBool); exact rfl) | ((with_reducible apply DL.t_withD); exact rfl) | ((with_reducible apply DL.t_withL); exact rfl) | ((with_reducible apply DL.t_slS); omega) | ((with_reducible apply DL.t_lenS); omega) | with_reducible refine ⟨_, rfl, ?_⟩ | ((with_reducible apply DL.t_yesIf); exact rfl) | ((with_reducible apply DL.t_noIf); exact rfl) | ((with_reducible apply DL.t_len); exact rfl) | with_reducible refine DL.t_in2 ?_)))
local macro_rules | `(tactic| walk_at "drivx") => `(tactic| (repeat (first | with_reducible refine DL.t_asg ?_ | with_reducible refine DL.t_hnil ?_ | with_reducible refine DL.t_hcons ?_ | with_reducible refine DL.t_star ?_ | with_reducible refine DL.t_raise ?_ | with_reducible refine DL.t_wdat ?_ | with_reducible refine DL.t_app ?_ | with_reducible refine DL.t_newT ?_ | with_reducible refine DL.t_clrT ?_ | with_reducible refine DL.t_drop ?_ | with_reducible refine DL.t_brk ?_ | with_reducible refine DL.t_cont ?_ | with_reducible refine DL.t_enum ?_ | with_reducible refine DL.t_joined ?_ | with_reducible refine DL.t_jnil ?_ | with_reducible refine DL.t_jcons ?_ | with_reducible refine DL.t_ins ?_ | with_reducible refine DL.t_putT ?_ | with_reducible refine DL.t_sortI ?_ | with_reducible refine DL.t_rng1 ?_ | with_reducible refine DL.t_getT ?_ | with_reducible refine DL.t_htup ?_ | with_reducible refine DL.t_try ?_ | with_reducible refine DL.t_isE ?_ | with_reducible refine DL.t_xf ?_ | with_reducible refine DL.t_seq ?_ | with_reducible refine DL.t_next ?_ | with_reducible refine DL.t_set ?_ | with_reducible refine DL.t_ret ?_ | with_reducible refine DL.t_retN ?_ | with_reducible refine DL.t_ifS ?_ | with_reducible refine DL.t_tt ?_ | with_reducible refine DL.t_ff ?_ | with_reducible refine DL.t_ntt ?_ | with_reducible refine DL.t_nff ?_ | with_reducible refine DL.t_yes ?_ | with_reducible refine DL.t_name ?_ | with_reducible refine DL.t_test ?_ | with_reducible refine DL.t_and ?_ | with_reducible refine DL.t_or ?_ | with_reducible refine DL.t_not ?_ | with_reducible refine DL.t_if ?_ | with_reducible refine DL.t_andV ?_ | with_reducible refine DL.t_orV ?_ | with_reducible refine DL.t_notV ?_ | with_reducible refine DL.t_isi ?_ | with_reducible refine DL.t_chain ?_ | with_reducible refine DL.t_bin ?_ | with_reducible refine DL.t_c ?_ | with_reducible refine DL.t_nil ?_ | with_reducible refine DL.t_cons ?_ | with_reducible refine DL.t_bnil ?_ | with_reducible refine DL.t_bcons ?_ | with_reducible refine DL.t_par ?_ | with_reducible refine DL.t_call ?_ | with_reducible refine DL.t_tup ?_ | with_reducible refine DL.t_lst ?_ | with_reducible refine DL.t_fn ?_ | with_reducible refine DL.t_mtS ?_ | with_reducible refine DL.t_mtL ?_ | with_reducible refine DL.t_sl ?_ | with_reducible refine DL.t_noPart ?_ | with_reducible refine DL.t_part ?_ | with_reducible refine DL.t_neg ?_ | with_reducible refine DL.t_fmt ?_ | with_reducible refine DL.t_eqS ?_ | with_reducible refine DL.t_eqI ?_ | with_reducible refine DL.t_neS ?_ | with_reducible refine DL.t_neI ?_ | with_reducible refine DL.t_is ?_ | with_reducible refine DL.t_isNot ?_ | with_reducible refine DL.t_addI ?_ | with_reducible refine DL.t_subI ?_ | with_reducible refine DL.t_ltI ?_ | with_reducible refine DL.t_leI ?_ | with_reducible refine DL.t_gtI ?_ | with_reducible refine DL.t_geI ?_ | with_reducible refine DL.t_slL ?_ | with_reducible refine DL.t_lenL ?_ | with_reducible refine DL.t_int ?_ | with_reducible refine DL.t_abs ?_ | ((with_reducible apply DL.t_var); exact rfl; exact rfl) | ((with_reducible apply DL.t_withBool); exact rfl) | ((with_reducible apply DL.t_withD); exact rfl) | ((with_reducible apply DL.t_withL); exact rfl) | ((with_reducible apply DL.t_slS); omega) | ((with_reducible apply DL.t_lenS); omega) | with_reducible refine ⟨_, rfl, ?_⟩ | ((with_reducible apply DL.t_yesIf); exact rfl) | ((with_reducible apply DL.t_noIf); exact rfl) | ((with_reducible apply DL.t_len); exact rfl) | with_reducible refine DL.t_in2 ?_ | ((with_reducible apply DL.t_ixL); exact rfl) | ((with_reducible apply DL.t_ixT); exact rfl))))
local macro_rules | `(tactic| walk_at "drivy") => `(tactic| (repeat (first | with_reducible refine DL.t_asg ?_ | with_reducible refine DL.t_hnil ?_ | with_reducible refine DL.t_hcons ?_ | with_reducible refine DL.t_star ?_ | with_reducible refine DL.t_raise ?_ | with_reducible refine DL.t_wdat ?_ | with_reducible refine DL.t_app ?_ | with_reducible refine DL.t_newT ?_ | with_reducible refine DL.t_clrT ?_ | with_reducible refine DL.t_drop ?_ | with_reducible refine DL.t_brk ?_ | with_reducible refine DL.t_cont ?_ | with_reducible refine DL.t_enum ?_ | with_reducible refine DL.t_joined ?_ | with_reducible refine DL.t_jnil ?_ | with_reducible refine DL.t_jcons ?_ | with_reducible refine DL.t_ins ?_ | with_reducible refine DL.t_putT ?_ | with_reducible refine DL.t_sortI ?_ | with_reducible refine DL.t_rng1 ?_ | with_reducible refine DL.t_getT ?_ | with_reducible refine DL.t_htup ?_ | with_reducible refine DL.t_try ?_ | with_reducible refine DL.t_isE ?_ | with_reducible refine DL.t_xf ?_ | with_reducible refine DL.t_seq ?_ | with_reducible refine DL.t_next ?_ | with_reducible refine DL.t_set ?_ | with_reducible refine DL.t_ret ?_ | with_reducible refine DL.t_retN ?_ | with_reducible refine DL.t_ifS ?_ | with_reducible refine DL.t_tt ?_ | with_reducible refine DL.t_ff ?_ | with_reducible refine DL.t_ntt ?_ | with_reducible refine DL.t_nff ?_ | with_reducible refine DL.t_yes ?_ | with_reducible refine DL.t_name ?_ | with_reducible refine DL.t_test ?_ | with_reducible refine DL.t_and ?_ | with_reducible refine DL.t_or ?_ | with_reducible refine DL.t_not ?_ | with_reducible refine DL.t_if ?_ | with_reducible refine DL.t_andV ?_ | with_reducible refine DL.t_orV ?_ | with_reducible refine DL.t_notV ?_ | with_reducible refine DL.t_isi ?_ | with_reducible refine DL.t_chain ?_ | with_reducible refine DL.t_bin ?_ | with_reducible refine DL.t_c ?_ | with_reducible refine DL.t_nil ?_ | with_reducible refine DL.t_cons ?_ | with_reducible refine DL.t_bnil ?_ | with_reducible refine DL.t_bcons ?_ | with_reducible refine DL.t_par ?_ | with_reducible refine DL.t_call ?_ | with_reducible refine DL.t_tup ?_ | with_reducible refine DL.t_lst ?_ | with_reducible refine DL.t_fn ?_ | with_reducible refine DL.t_mtS ?_ | with_reducible refine DL.t_mtL ?_ | with_reducible refine DL.t_sl ?_ | with_reducible refine DL.t_noPart ?_ | with_reducible refine DL.t_part ?_ | with_reducible refine DL.t_neg ?_ | with_reducible refine DL.t_fmt ?_ | with_reducible refine DL.t_eqS ?_ | with_reducible refine DL.t_eqI ?_ | with_reducible refine DL.t_neS ?_ | with_reducible refine DL.t_neI ?_ | with_reducible refine DL.t_is ?_ | with_reducible refine DL.t_isNot ?_ | with_reducible refine DL.t_addI ?_ | with_reducible refine DL.t_subI ?_ | with_reducible refine DL.t_ltI ?_ | with_reducible refine DL.t_leI ?_ | with_reducible refine DL.t_gtI ?_ | with_reducible refine DL.t_geI ?_ | with_reducible refine DL.t_slL ?_ | with_reducible refine DL.t_lenL ?_ | with_reducible refine DL.t_int ?_ | with_reducible refine DL.t_abs ?_ | ((with_reducible apply DL.t_var); exact rfl; exact rfl) | ((with_reducible apply DL.t_withBool); exact rfl) | ((with_reducible apply DL.t_withD); exact rfl) | ((with_reducible apply DL.t_withL); exact rfl) | ((with_reducible apply DL.t_slS); omega) | ((with_reducible apply DL.t_lenS); omega) | with_reducible refine ⟨_, rfl, ?_⟩ | ((with_reducible apply DL.t_yesIf); exact rfl) | ((with_reducible apply DL.t_noIf); exact rfl) | ((with_reducible apply DL.t_len); exact rfl) | with_reducible refine DL.t_in2 ?_ | ((with_reducible apply DL.t_ixL); exact rfl) | ((with_reducible apply DL.t_ixT); exact rfl) | refine ⟨rfl, ?_⟩)))
local macro_rules | `(tactic| walk_at "drivz") => `(tactic| (repeat (first | with_reducible refine DL.t_asg ?_ | with_reducible refine DL.t_hnil ?_ | with_reducible refine DL.t_hcons ?_ | with_reducible refine DL.t_star ?_ | with_reducible refine DL.t_raise ?_ | with_reducible refine DL.t_wdat ?_ | with_reducible refine DL.t_app ?_ | with_reducible refine DL.t_newT ?_ | with_reducible refine DL.t_clrT ?_ | with_reducible refine DL.t_drop ?_ | with_reducible refine DL.t_brk ?_ | with_reducible refine DL.t_cont ?_ | with_reducible refine DL.t_enum ?_ | with_reducible refine DL.t_joined ?_ | with_reducible refine DL.t_jnil ?_ | with_reducible refine DL.t_jcons ?_ | with_reducible refine DL.t_ins ?_ | with_reducible refine DL.t_putT ?_ | with_reducible refine DL.t_sortI ?_ | with_reducible refine DL.t_rng1 ?_ | with_reducible refine DL.t_getT ?_ | with_reducible refine DL.t_htup ?_ | with_reducible refine DL.t_try ?_ | with_reducible refine DL.t_isE ?_ | with_reducible refine DL.t_xf ?_ | with_reducible refine DL.t_seq ?_ | with_reducible refine DL.t_next ?_ | with_reducible refine DL.t_set ?_ | with_reducible refine DL.t_ret ?_ | with_reducible refine DL.t_retN ?_ | with_reducible refine DL.t_ifS ?_ | with_reducible refine DL.t_tt ?_ | with_reducible refine DL.t_ff ?_ | with_reducible refine DL.t_ntt ?_ | with_reducible refine DL.t_nff ?_ | with_reducible refine DL.t_yes ?_ | with_reducible refine DL.t_name ?_ | with_reducible refine DL.t_test ?_ | with_reducible refine DL.t_and ?_ | with_reducible refine DL.t_or ?_ | with_reducible refine DL.t_not ?_ | with_reducible refine DL.t_if ?_ | with_reducible refine DL.t_andV ?_ | with_reducible refine DL.t_orV ?_ | with_reducible refine DL.t_notV ?_ | with_reducible refine DL.t_isi ?_ | with_reducible refine DL.t_chain ?_ | with_reducible refine DL.t_bin ?_ | with_reducible refine DL.t_c ?_ | with_reducible refine DL.t_nil ?_ | with_reducible refine DL.t_cons ?_ | with_reducible refine DL.t_bnil ?_ | with_reducible refine DL.t_bcons ?_ | with_reducible refine DL.t_par ?_ | with_reducible refine DL.t_call ?_ | with_reducible refine DL.t_tup ?_ | with_reducible refine DL.t_lst ?_ | with_reducible refine DL.t_fn ?_ | with_reducible refine DL.t_mtS ?_ | with_reducible refine DL.t_mtL ?_ | with_reducible refine DL.t_sl ?_ | with_reducible refine DL.t_noPart ?_ | with_reducible refine DL.t_part ?_ | with_reducible refine DL.t_neg ?_ | with_reducible refine DL.t_fmt ?_ | with_reducible refine DL.t_eqS ?_ | with_reducible refine DL.t_eqI ?_ | with_reducible refine DL.t_neS ?_ | with_reducible refine DL.t_neI ?_ | with_reducible refine DL.t_is ?_ | with_reducible refine DL.t_isNot ?_ | with_reducible refine DL.t_addI ?_ | with_reducible refine DL.t_subI ?_ | with_reducible refine DL.t_ltI ?_ | with_reducible refine DL.t_leI ?_ | with_reducible refine DL.t_gtI ?_ | with_reducible refine DL.t_geI ?_ | with_reducible refine DL.t_slL ?_ | with_reducible refine DL.t_lenL ?_ | with_reducible refine DL.t_int ?_ | with_reducible refine DL.t_abs ?_ | ((with_reducible apply DL.t_var); exact rfl; exact rfl) | ((with_reducible apply DL.t_withBool); exact rfl) | ((with_reducible apply DL.t_withD); exact rfl) | ((with_reducible apply DL.t_withL); exact rfl) | ((with_reducible apply DL.t_slS); omega) | ((with_reducible apply DL.t_lenS); omega) | with_reducible refine ⟨_, rfl, ?_⟩ | ((with_reducible apply DL.t_yesIf); exact rfl) | ((with_reducible apply DL.t_noIf); exact rfl) | ((with_reducible apply DL.t_len); exact rfl) | with_reducible refine DL.t_in2 ?_ | ((with_reducible apply DL.t_ixL); exact rfl) | ((with_reducible apply DL.t_ixT); exact rfl) | refine ⟨rfl, ?_⟩ | ((with_reducible apply DL.t_withT); exact rfl) | ((with_reducible apply DL.t_withDat); exact rfl) | ((with_reducible apply DL.t_withK); exact rfl) | ((with_reducible apply DL.t_withOwn); exact rfl))))
-- end of drives
namespace K92
open PySem L2 DL
def isInt : PyData → Bool
  | .int _ => true
  | _ => false
abbrev con_is_integer : Con := fun ss q _ => ∃ d, ss = [.dat d] ∧ noDict d = true ∧ q (.dat (.bool (isInt d)))
abbrev con_read_integer : Con := fun ss q _ => ∃ w : Str, ss = [.dat (.str w)] ∧ w.length ≤ 100000 ∧ q (.dat (rdI w))
section
variable {ρ : List DL.Slot} {Q : DL.Slot → List DL.Slot → Prop}
theorem e_pl {i : Nat} {w : Str} (h : ρ[i]? = some (.dat (.str w))) (hw : w.length ≤ 100000) (k : Q (.dat (.str (pl w))) ρ) : dIf (dTest (dBin oEq (dSl (dVar i) dNoPart (dPart (dC (.int 1)))) (dC (.str "-")))) (dSl (dVar i) (dPart (dC (.int 1))) dNoPart) (dVar i) ρ Q := by
  refine t_if (t_test (t_bin (t_sl (t_var _ h rfl (t_noPart (t_part (t_c ⟨1, rfl, ?_⟩)))))))
  refine t_withD _ rfl (t_slS (by omega) (t_c (t_withD _ rfl (t_withD _ rfl (t_eqS (t_withBool _ rfl ?_))))))
  refine t_ite (fun n => ?_) (fun n => ?_)
  · refine t_sl (t_var _ h rfl (t_part (t_c ⟨1, rfl, t_noPart (t_withD _ rfl (t_slS (by omega) ?_))⟩)))
    unfold pl at k
    rw [if_pos (show isNeg w = true from n)] at k
    exact k
  · refine t_var _ h rfl ?_
    unfold pl at k
    rw [if_neg (by show ¬ (isNeg w = true); unfold isNeg; rw [n]; exact Bool.false_ne_true)] at k
    exact k
/-- [sign in DIGITS for sign in p] -/
theorem e_in {i j : Nat} {p : Str} (h : ρ[i]? = some (.dat (.str p))) (hp : p.length ≤ 100000) (hj : j < ρ.length) (ho : noOwnAt ρ [j] = true) (k : Q (.own ((tl p).map fun c => .bool (inDig c))) ρ) : dLc (dStrI (dVar i)) (hName j) dYes (dBin oIn (dVar j) (dC (.str "0123456789"))) [j] ρ Q := by
  have e : ((signs p).filter fun _ => true).map (fun d => match d with | .str x => PyData.bool (inDig (x.cps.getD 0 0)) | _ => .none) = (tl p).map fun c => .bool (inDig c) := by
    rw [List.filter_eq_self.mpr (fun _ _ => rfl), signs, List.map_map]; rfl
  refine t_lc (fun _ => true) (fun d => match d with | .str x => PyData.bool (inDig (x.cps.getD 0 0)) | _ => .none) (signs p) ρ (fun R hR => t_dstr (t_var _ h rfl ⟨p, rfl, hR⟩)) ho (by unfold signs; rw [List.length_map]; show (tl p).length ≤ _; rw [tl_len]; exact hp) (fun n d hd acc Z hl hZ => ?_) (by rw [e]; exact k)
  obtain ⟨c, hc, rfl⟩ := signs_get hd
  have hs : ∀ x : DL.Slot, ((wipeD ρ [j]).set j x)[j]? = some x := fun x => by rw [List.getElem?_set_self]; rw [wipeD_length]; exact hj
  have hw : ∀ x : DL.Slot, wipeD ((wipeD ρ [j]).set j x) [j] = wipeD ρ [j] := fun x => by
    show (((ρ.set j .un)).set j x).set j .un = ρ.set j .un
    rw [List.set_set, List.set_set]
  refine t_name ⟨⟨hw _, ?_⟩, t_yes (t_tt (t_bin (t_var _ (hs _) rfl (t_c (t_withD _ rfl (t_withD _ rfl (t_inC ⟨hw _, hl, ?_⟩)))))))⟩
  · show ([j].all fun j' => match ((wipeD ρ [j]).set j (.dat (.str ⟨#[c]⟩)))[j']? with | some s => !s.isOwn | none => true) = true
    rw [List.all_cons, hs]; rfl
  · rw [if_pos rfl] at hZ; exact hZ
end
section
variable {P : Program} {w : World} {K : PySem.W.Frag} {mg : Str → Option Value} {base : Heap}
abbrev s_is_integer : Stmt := top 6
abbrev n_is_integer : List Str := ["thing"]
abbrev p_is_integer : List Str := ["thing"]
theorem sc_is_integer : FnScope n_is_integer p_is_integer (defScope s_is_integer) := ⟨rfl, rfl, rfl, by decide +kernel, rfl, by decide +kernel, by decide +kernel⟩
theorem ok_is_integer {f : Addr} {fd : FuncData} (F : Fun K "is_integer" "is_integer" s_is_integer f fd) (T : Txt mg)  : FnOk P w K mg base CX0 (0 + 1) f fd p_is_integer (spOf K p_is_integer.length con_is_integer) := by
  refine fn_ok F sc_is_integer fun cdv A outer s H hr => ?_
  have nd := sc_is_integer.nd
  refine ⟨_, _, (dss_one (ds_ret (de_and (de_isi (T := "int") (de_var 0) T.b_isinstance T.b_int (by kernel_rfl) (by decide)) (de_one (de_not (de_isi (T := "bool") (de_var 0) T.b_isinstance T.b_bool (by kernel_rfl) (by decide))))))), ?_⟩
  rintro ss q y hl ⟨d, rfl, hd, hq⟩
  walk_at "drive"
  refine ⟨hd, ?_⟩
  walk_at "drive"
  refine t_ite (fun h => ?_) (fun h => ?_)
  · walk_at "drive"
    refine ⟨hd, ?_⟩
    walk_at "drive"
    exact t_leaf hq (by cases d <;> first | rfl | cases h | cases hd)
  · exact t_leaf hq (by cases d <;> first | rfl | cases h | cases hd)
abbrev s_read_integer : Stmt := top 11
abbrev n_read_integer : List Str := ["word", "digits", "sign"]
abbrev p_read_integer : List Str := ["word"]
theorem sc_read_integer : FnScope n_read_integer p_read_integer (defScope s_read_integer) := ⟨rfl, rfl, rfl, by decide +kernel, rfl, by decide +kernel, by decide +kernel⟩
theorem ok_read_integer {f : Addr} {fd : FuncData} (F : Fun K "read_integer" "read_integer" s_read_integer f fd) (T : Txt mg)  : FnOk P w K mg base CX0 (0 + 1) f fd p_read_integer (spOf K p_read_integer.length con_read_integer) := by
  refine fn_ok F sc_read_integer fun cdv A outer s H hr => ?_
  have nd := sc_read_integer.nd
  refine ⟨_, _, (dss_cons (ds_set (i := 1) nd (de_if (dc_cmp (op_eqA hr.units) od_eq (de_sl (de_var 0) do_none (do_some de_int)) de_str (nomark _)) (de_sl (de_var 0) (do_some de_int) do_none) (de_var 0))) (dss_cons (ds_if (dc_w (dw_or (dc_not (dc_chain (op_leA hr.units0) (op_leA hr.units0) od_le od_le de_int (de_callB call_len cd_len (by rfl) T.b_len (by kernel_rfl) (da_cons (de_var 1) da_nil)) (de_gc rfl T.g_MOST_DIGITS (fun _ => rep_i)))) (dw_or1 (dc_not (dc_val (de_callB (cr_all rfl) cd_all (by rfl) T.b_all (by kernel_rfl) (da_cons (de_lc (own := [("sign", 2)]) rfl nd (di_str (de_var 1)) (by show blkC n_read_integer (defScope s_read_integer) _ _ = true; decide +kernel) (fun _ _ _ _ _ => (dg_name (i := 2) nd)) (fun _ _ _ _ _ => dts_nil) (fun _ _ _ _ _ => (de_cmp op_inA (od_in (K := K)) (de_var 2) (de_gc rfl T.g_DIGITS (fun _ => rep_s)) (by with_unfolding_all rfl)))) da_nil))))))) (dss_one (ds_ret de_non)) dss_nil) (dss_one (ds_ret (de_if (dc_w (dw_and (dc_cmp (op_eqA hr.units) od_eq (de_ix (de_var 1) de_int) de_str (nomark _)) (dw_and1 (dc_cmp (op_neA hr.units) od_ne (de_var 0) de_str (nomark _))))) de_non (de_callTy cr_int cd_int (by rfl) T.b_int (by kernel_rfl) (da_cons (de_var 0) da_nil))))))), ?_⟩
  rintro ss q y hl ⟨w, rfl, hw, hq⟩
  have hp := pl_len w
  refine t_seq (t_set (e_pl rfl hw ?_))
  generalize hv : pl w = v at hp ⊢
  walk_at "drive"
  refine t_ite (fun h1 => ?_) (fun h1 => ?_)
  · walk_at "drive"
    refine t_ite (fun h2 => ?_) (fun h2 => ?_)
    · walk_at "drive"
      refine t_leaf hq (congrArg _ (rdI_none (.inl ?_)).symm)
      have h2 : (60 : Int) < v.length := by simpa using h2
      have : ¬ (tl v).length ≤ 60 := by rw [tl_len]; omega
      unfold digs
      rw [hv, decide_eq_false this, Bool.and_false]; rfl
    · walk_at "drive"
      refine e_in rfl (by omega) (Nat.lt_succ_self 2) rfl ?_
      walk_at "drive"
      refine t_allB _ (bools_map inDig (tl v)) ?_
      walk_at "drive"
      have e3 : ((tl v).map inDig).all id = (tl v).all inDig := by rw [List.all_map]; rfl
      rw [e3]
      have l1 : (tl v).length = v.length := tl_len v
      refine t_ite (fun h3 => ?_) (fun h3 => ?_)
      · walk_at "drive"
        refine t_leaf hq (congrArg _ (rdI_none (.inl ?_)).symm)
        unfold digs
        rw [hv, show (tl v).all inDig = false by simpa using h3, Bool.and_false]
      · have h3 : (tl v).all inDig = true := by simpa using h3
        have hd : digs (pl w) = true := by
          unfold digs
          simp only [decide_eq_true_eq] at h1
          have h2 : ¬ ((60 : Int) < v.length) := by simpa using h2
          rw [hv, h3, Bool.and_true, Bool.and_eq_true, decide_eq_true_eq, decide_eq_true_eq]
          omega
        obtain ⟨n, hn⟩ := int_of hd
        obtain ⟨c, r, hc⟩ : ∃ c r, tl v = c :: r := by
          cases e : tl v with
          | nil => unfold digs at hd; rw [hv, e] at hd; simp at hd
          | cons c r => exact ⟨c, r, rfl⟩
        have hwl : w.length ≤ 640 := by
          have := len_pl w
          rw [hv] at this
          have h2 : ¬ ((60 : Int) < v.length) := by simpa using h2
          omega
        walk_at "drive"
        have ht : ((⟨#[c]⟩ : Str) == ("0" : Str)) = decide (c = 48) := by
          by_cases e : c = 48
          · subst e; rfl
          · rw [decide_eq_false e]
            exact beq_false_of_ne fun z => e (by have : [c] = [48] := congrArg tl z; injection this)
        have hd0 : ((tl (pl w)).head? == some 48) = decide (c = 48) := by
          rw [hv, hc]; by_cases e : c = 48 <;> simp [e]
        refine t_ixS c (by omega) (by show atI (tl v) 0 = some c; rw [hc]; exact atI_nat (j := 0) rfl) ?_
        walk_at "drive"
        refine t_ite (fun h4 => ?_) (fun h4 => ?_)
        · rw [ht] at h4
          walk_at "drive"
          refine t_ite (fun h5 => ?_) (fun h5 => ?_)
          · walk_at "drive"
            refine t_leaf hq (congrArg _ (rdI_none (.inr ?_)).symm)
            unfold led
            rw [hd0, h4, Bool.true_and]; exact h5
          · walk_at "drive"
            refine t_intS n hwl hn ?_
            walk_at "drive"
            refine t_leaf hq (congrArg _ (rdI_some hd ?_ hn).symm)
            unfold led
            rw [hd0, h4, Bool.true_and]; exact h5
        · rw [ht] at h4
          walk_at "drive"
          refine t_intS n hwl hn ?_
          walk_at "drive"
          refine t_leaf hq (congrArg _ (rdI_some hd ?_ hn).symm)
          unfold led
          rw [hd0, h4, Bool.false_and]
  · walk_at "drive"
    refine t_leaf hq (congrArg _ (rdI_none (.inl ?_)).symm)
    have h1 : ¬ (1 : Int) ≤ v.length := by simpa using h1
    have : ¬ 1 ≤ (tl v).length := by rw [tl_len]; omega
    unfold digs
    rw [hv, decide_eq_false this]; rfl
end
end K92

-- part K92B
set_option Elab.async false
set_option maxRecDepth 100000
set_option maxHeartbeats 400000
namespace K92
open PySem L2 DL
abbrev con_is_number : Con := fun ss q _ => ∃ o : Option Int, ss = [.dat (opt o)] ∧ q (.dat (.bool (farO o)))
abbrev con_read_natural : Con := fun ss q _ => ∃ w : Str, ss = [.dat (.str w)] ∧ w.length ≤ 100000 ∧ q (.dat (opt (natO w)))
abbrev con_content_in : Con := fun ss q _ => ∃ w : Str, ss = [.dat (.str w)] ∧ w.length ≤ 100000 ∧ q (.dat (cinD (cinO (Txt.split w " "))))
section
variable {P : Program} {w : World} {K : PySem.W.Frag} {mg : Str → Option Value} {base : Heap}
abbrev s_is_number : Stmt := top 7
abbrev n_is_number : List Str := ["thing"]
abbrev p_is_number : List Str := ["thing"]
theorem sc_is_number : FnScope n_is_number p_is_number (defScope s_is_number) := ⟨rfl, rfl, rfl, by decide +kernel, rfl, by decide +kernel, by decide +kernel⟩
theorem ok_is_number {f : Addr} {fd : FuncData} (F : Fun K "is_number" "is_number" s_is_number f fd) (T : Txt mg) (c_is_integer : Cal P w K mg base CX0 1 "is_integer" p_is_integer con_is_integer) : FnOk P w K mg base CX0 (2 + 1) f fd p_is_number (spOf K p_is_number.length con_is_number) := by
  refine fn_ok F sc_is_number fun cdv A outer s H hr => ?_
  have nd := sc_is_number.nd
  refine ⟨_, _, (dss_one (ds_ret (de_and (de_fc c_is_integer (hr.mono (by decide)) (da_cons (de_var 0) da_nil)) (de_one (de_chain (op_leA hr.units0) (op_leA hr.units0) od_le od_le (de_neg (de_gc rfl T.g_FAR (fun _ => rep_i))) (de_var 0) (de_gc rfl T.g_FAR (fun _ => rep_i))))))), ?_⟩
  rintro ss q y hl ⟨o, rfl, hq⟩
  cases o with
  | none =>
    walk_at "drive"
    refine ⟨rfl, _, rfl, rfl, ?_⟩
    walk_at "drive"
    exact t_leaf hq rfl
  | some n =>
    rw [opt_some]
    walk_at "drive"
    refine ⟨rfl, _, rfl, rfl, ?_⟩
    walk_at "drive"
    refine t_ite (fun h => ?_) (fun h => ?_)
    · walk_at "drive"
      refine t_lf hq ?_
      rw [far_some, h, Bool.true_and]
    · walk_at "drive"
      refine t_lf hq ?_
      rw [far_some, h, Bool.false_and]
abbrev s_read_natural : Stmt := top 12
abbrev n_read_natural : List Str := ["word", "found"]
abbrev p_read_natural : List Str := ["word"]
theorem sc_read_natural : FnScope n_read_natural p_read_natural (defScope s_read_natural) := ⟨rfl, rfl, rfl, by decide +kernel, rfl, by decide +kernel, by decide +kernel⟩
theorem ok_read_natural {f : Addr} {fd : FuncData} (F : Fun K "read_natural" "read_natural" s_read_natural f fd) (T : Txt mg) (c_read_integer : Cal P w K mg base CX0 1 "read_integer" p_read_integer con_read_integer) : FnOk P w K mg base CX0 (2 + 1) f fd p_read_natural (spOf K p_read_natural.length con_read_natural) := by
  refine fn_ok F sc_read_natural fun cdv A outer s H hr => ?_
  have nd := sc_read_natural.nd
  refine ⟨_, _, (dss_cons (ds_set (i := 1) nd (de_fc c_read_integer (hr.mono (by decide)) (da_cons (de_var 0) da_nil))) (dss_one (ds_ret (de_if (dc_w (dw_and (dc_cmp op_notN od_isNot (de_var 1) de_non (nomark _)) (dw_and1 (dc_cmp op_ge od_ge (de_var 1) de_int (nomark _))))) (de_var 1) de_non)))), ?_⟩
  rintro ss q y hl ⟨w, rfl, hw, hq⟩
  walk_at "drive"
  refine ⟨rfl, _, rfl, hw, ?_⟩
  rw [rdI_opt]
  unfold natO at hq
  cases h : rdO w with
  | none =>
    rw [h] at hq
    rw [opt_none]
    walk_at "drive"
    exact t_leaf hq rfl
  | some n =>
    rw [h] at hq
    rw [opt_some]
    walk_at "drive"
    refine t_ite (fun h => ?_) (fun h => ?_)
    · walk_at "drive"
      refine t_lf hq ?_
      show PyData.int n = opt (if 0 ≤ n then some n else none)
      rw [if_pos (of_decide_eq_true h)]; rfl
    · walk_at "drive"
      refine t_lf hq ?_
      show PyData.none = opt (if 0 ≤ n then some n else none)
      rw [if_neg (of_decide_eq_false h)]; rfl
abbrev s_content_in : Stmt := top 15
abbrev n_content_in : List Str := ["line", "words", "column", "number", "row"]
abbrev p_content_in : List Str := ["line"]
theorem sc_content_in : FnScope n_content_in p_content_in (defScope s_content_in) := ⟨rfl, rfl, rfl, by decide +kernel, rfl, by decide +kernel, by decide +kernel⟩
theorem ok_content_in {f : Addr} {fd : FuncData} (F : Fun K "content_in" "content_in" s_content_in f fd) (T : Txt mg) (c_read_integer : Cal P w K mg base CX0 1 "read_integer" p_read_integer con_read_integer) (c_read_natural : Cal P w K mg base CX0 3 "read_natural" p_read_natural con_read_natural) (c_is_number : Cal P w K mg base CX0 3 "is_number" p_is_number con_is_number) : FnOk P w K mg base CX0 (3 + 1) f fd p_content_in (spOf K p_content_in.length con_content_in) := by
  refine fn_ok F sc_content_in fun cdv A outer s H hr => ?_
  have nd := sc_content_in.nd
  refine ⟨_, _, (dss_cons (ds_set (i := 1) nd (de_split (de_var 0) (da_cons de_str da_nil))) (dss_cons (ds_if (dc_cmp (op_neA hr.units) od_ne (de_callB call_len cd_len (by rfl) T.b_len (by kernel_rfl) (da_cons (de_var 1) da_nil)) de_int (nomark _)) (dss_one (ds_ret de_non)) dss_nil) (dss_cons (ds_par2 (i := 2) (j := 3) rfl nd (db_cons (de_fc c_read_natural (hr.mono (by decide)) (da_cons (de_ix (de_var 1) de_int) da_nil)) (db_cons (de_fc c_read_integer (hr.mono (by decide)) (da_cons (de_ix (de_var 1) de_int) da_nil)) db_nil)) (by rfl)) (dss_cons (ds_set (i := 4) nd (de_if (dc_cmp (op_eqA hr.units) od_eq (de_ix (de_var 1) de_int) de_str (nomark _)) (de_neg de_int) (de_fc c_read_natural (hr.mono (by decide)) (da_cons (de_ix (de_var 1) de_int) da_nil)))) (dss_cons (ds_if (dc_w (dw_or (dc_cmp op_isN od_is (de_var 2) de_non (nomark _)) (dw_or (dc_cmp op_isN od_is (de_var 4) de_non (nomark _)) (dw_or1 (dc_not (dc_val (de_fc c_is_number (hr.mono (by decide)) (da_cons (de_var 3) da_nil)))))))) (dss_one (ds_ret de_non)) dss_nil) (dss_one (ds_ret (de_tup (da_cons (de_tup (da_cons (de_var 2) (da_cons (de_var 4) da_nil))) (da_cons (de_var 3) da_nil)))))))))), ?_⟩
  rintro ss q y hl ⟨w, rfl, hw, hq⟩
  have hs : ∀ x ∈ Txt.split w " ", x.length ≤ 100000 := fun x hx => Nat.le_trans (PyProof.Rows.part_short hx) hw
  walk_at "drive"
  refine t_split (z := w) rfl (by omega) ?_
  generalize Txt.split w " " = ws at hq hs
  walk_at "drive"
  refine t_ite (fun h => ?_) (fun h => ?_)
  · walk_at "drive"
    refine t_lf hq ?_
    have h : ws.length ≠ 3 := by
      rw [strs_len] at h
      intro z; rw [z] at h; cases h
    match ws, h with
    | [], _ => rfl
    | [_], _ => rfl
    | [_, _], _ => rfl
    | [_, _, _], h => exact absurd rfl h
    | _ :: _ :: _ :: _ :: _, _ => rfl
  · obtain ⟨a, b, c, rfl⟩ : ∃ a b c, ws = [a, b, c] := by
      have h : ws.length = 3 := by
        rw [strs_len] at h
        have : ((ws.length : Int) == 3) = true := by simpa using h
        have := of_decide_eq_true this
        omega
      match ws, h with
      | [a, b, c], _ => exact ⟨a, b, c, rfl⟩
    have ha := hs a (by simp)
    have hb := hs b (by simp)
    have hc := hs c (by simp)
    walk_at "drivx"
    refine ⟨rfl, _, rfl, ha, ?_⟩
    walk_at "drivx"
    refine ⟨rfl, _, rfl, hc, ?_⟩
    rw [rdI_opt]
    refine ⟨rfl, ?_⟩
    have e : cinO [a, b, c] = (match natO a, rowO b, rdO c with
      | some x, some y, some n => if farO (some n) = true then some ((x, y), n) else none
      | _, _, _ => none) := rfl
    rw [e] at hq
    generalize natO a = oa at hq ⊢
    generalize rdO c = oc at hq ⊢
    walk_at "drivx"
    refine t_ite (fun h2 => ?_) (fun h2 => ?_)
    · rw [show rowO b = some (-1) from if_pos h2] at hq
      cases oa with
      | none =>
        rw [opt_none]
        walk_at "drivx"
        exact t_lf hq rfl
      | some x =>
        rw [opt_some]
        walk_at "drivx"
        refine ⟨rfl, oc, rfl, ?_⟩
        walk_at "drivx"
        refine t_ite (fun h3 => ?_) (fun h3 => ?_)
        · walk_at "drivx"
          refine t_lf hq ?_
          cases oc with
          | none => rfl
          | some n =>
            have h3 : farO (some n) = false := by simpa using h3
            show PyData.none = cinD (if farO (some n) = true then _ else _)
            rw [h3]; rfl
        · have h3 : farO oc = true := by simpa using h3
          cases oc with
          | none => cases h3
          | some n =>
            walk_at "drivx"
            refine t_lf hq ?_
            show _ = cinD (if farO (some n) = true then _ else _)
            rw [h3]; rfl
    · rw [show rowO b = natO b from if_neg (by rw [h2]; exact Bool.false_ne_true)] at hq
      walk_at "drivx"
      refine ⟨rfl, _, rfl, hb, ?_⟩
      generalize natO b = ob at hq ⊢
      cases oa with
      | none =>
        rw [opt_none]
        walk_at "drivx"
        exact t_lf hq rfl
      | some x =>
        rw [opt_some]
        cases ob with
        | none =>
          rw [opt_none]
          walk_at "drivx"
          exact t_lf hq rfl
        | some z =>
          rw [opt_some]
          walk_at "drivx"
          refine ⟨rfl, oc, rfl, ?_⟩
          walk_at "drivx"
          refine t_ite (fun h3 => ?_) (fun h3 => ?_)
          · walk_at "drivx"
            refine t_lf hq ?_
            cases oc with
            | none => rfl
            | some n =>
              have h3 : farO (some n) = false := by simpa using h3
              show PyData.none = cinD (if farO (some n) = true then _ else _)
              rw [h3]; rfl
          · have h3 : farO oc = true := by simpa using h3
            cases oc with
            | none => cases h3
            | some n =>
              walk_at "drivx"
              refine t_lf hq ?_
              show _ = cinD (if farO (some n) = true then _ else _)
              rw [h3]; rfl
end
end K92

-- part K92C
set_option Elab.async false
set_option maxRecDepth 100000
set_option maxHeartbeats 400000
namespace K92
open PySem L2 DL
abbrev con_cell_in : Con := fun ss q _ => ∃ (ws : List Str) (r : Int), ss = [.dat (.list (strsD ws)), .dat (.int r)] ∧ (∀ x ∈ ws, x.length ≤ 100000) ∧ q (.dat (optP (cellO ws r)))
abbrev con_read_cell (C : Addr) : Con := fun ss q x => ∃ (d : PyData) (r : Int), ss = [.dat d, .dat (.int r)] ∧ (noDict d = true ∧ ∀ w, d = .str w → w.length ≤ 100000) ∧ match cellR d r with
  | .ok p => q (.dat (pairD p))
  | .error n => x C [("line", .int n)]
abbrev con_show_cell : Con := fun ss q _ => ∃ (p : Int × Int) (r : Int), ss = [.dat (pairD p), .dat (.int r)] ∧ (0 ≤ p.1 ∧ p.1 < 1000000 ∧ -1 ≤ p.2 ∧ p.2 < 1000000) ∧ q (.dat (.str (cellT p r)))
section
variable {P : Program} {w : World} {K : PySem.W.Frag} {mg : Str → Option Value} {base : Heap}
abbrev s_cell_in : Stmt := top 17
abbrev n_cell_in : List Str := ["words", "rows", "column", "row"]
abbrev p_cell_in : List Str := ["words", "rows"]
theorem sc_cell_in : FnScope n_cell_in p_cell_in (defScope s_cell_in) := ⟨rfl, rfl, rfl, by decide +kernel, rfl, by decide +kernel, by decide +kernel⟩
theorem ok_cell_in {f : Addr} {fd : FuncData} (F : Fun K "cell_in" "cell_in" s_cell_in f fd) (T : Txt mg) (c_read_natural : Cal P w K mg base CX0 3 "read_natural" p_read_natural con_read_natural) : FnOk P w K mg base CX0 (3 + 1) f fd p_cell_in (spOf K p_cell_in.length con_cell_in) := by
  refine fn_ok F sc_cell_in fun cdv A outer s H hr => ?_
  have nd := sc_cell_in.nd
  refine ⟨_, _, (dss_cons (ds_if (dc_cmp (op_neA hr.units) od_ne (de_callB call_len cd_len (by rfl) T.b_len (by kernel_rfl) (da_cons (de_var 0) da_nil)) de_int (nomark _)) (dss_one (ds_ret de_non)) dss_nil) (dss_cons (ds_par2 (i := 2) (j := 3) rfl nd (db_cons (de_fc c_read_natural (hr.mono (by decide)) (da_cons (de_ix (de_var 0) de_int) da_nil)) (db_cons (de_fc c_read_natural (hr.mono (by decide)) (da_cons (de_ix (de_var 0) de_int) da_nil)) db_nil)) (by rfl)) (dss_cons (ds_if (dc_cmp op_inA (od_in (K := K)) (de_ix (de_var 0) de_int) (de_tup (da_cons de_str (da_cons de_str da_nil))) (by with_unfolding_all rfl)) (dss_one (ds_set (i := 3) nd (de_if (dc_cmp (op_eqA hr.units) od_eq (de_ix (de_var 0) de_int) de_str (nomark _)) (de_neg de_int) (de_var 1)))) (dss_one (ds_if (dc_w (dw_and (dc_cmp op_notN od_isNot (de_var 3) de_non (nomark _)) (dw_and1 (dc_cmp op_ge od_ge (de_var 3) (de_var 1) (nomark _))))) (dss_one (ds_set (i := 3) nd de_non)) dss_nil))) (dss_one (ds_ret (de_if (dc_w (dw_or (dc_cmp op_isN od_is (de_var 2) de_non (nomark _)) (dw_or1 (dc_cmp op_isN od_is (de_var 3) de_non (nomark _))))) de_non (de_tup (da_cons (de_var 2) (da_cons (de_var 3) da_nil))))))))), ?_⟩
  rintro ss q y hl ⟨ws, r, rfl, hs, hq⟩
  walk_at "drive"
  refine t_ite (fun h => ?_) (fun h => ?_)
  · walk_at "drive"
    refine t_lf hq ?_
    have h : ws.length ≠ 2 := by
      rw [strs_len] at h
      intro z; rw [z] at h; cases h
    match ws, h with
    | [], _ => rfl
    | [_], _ => rfl
    | [_, _], h => exact absurd rfl h
    | _ :: _ :: _ :: _, _ => rfl
  · obtain ⟨a, b, rfl⟩ : ∃ a b, ws = [a, b] := by
      have h : ws.length = 2 := by
        rw [strs_len] at h
        have : ((ws.length : Int) == 2) = true := by simpa using h
        have := of_decide_eq_true this
        omega
      match ws, h with
      | [a, b], _ => exact ⟨a, b, rfl⟩
    have ha := hs a (by simp)
    have hb := hs b (by simp)
    walk_at "drivx"
    refine ⟨rfl, _, rfl, ha, ?_⟩
    walk_at "drivx"
    refine ⟨rfl, _, rfl, hb, ?_⟩
    refine ⟨rfl, ?_⟩
    walk_at "drivx"
    have e : cellO [a, b] r = (match natO a with
    | some x => if (b == ("head" : Str)) = true then some (x, -1) else if (b == ("foot" : Str)) = true then some (x, r) else
      match natO b with
      | some y => if r ≤ y then none else some (x, y)
      | none => none
    | none => none) := rfl
    rw [e] at hq
    generalize natO a = oa at hq ⊢
    generalize natO b = ob at hq ⊢
    cases h1 : (b == ("head" : Str)) with
    | true =>
      rw [h1] at hq
      rw [Bool.true_or]
      walk_at "drivx"
      rw [h1]
      walk_at "drivx"
      cases oa with
      | none => 
        rw [opt_none]
        walk_at "drivx"
        exact t_lf hq rfl
      | some x =>
        rw [opt_some]
        walk_at "drivx"
        exact t_lf hq rfl
    | false =>
      rw [h1] at hq
      rw [Bool.false_or]
      cases h2 : (b == ("foot" : Str)) with
      | true =>
        rw [h2] at hq
        walk_at "drivx"
        rw [h1]
        walk_at "drivx"
        cases oa with
        | none => 
          rw [opt_none]
          walk_at "drivx"
          exact t_lf hq rfl
        | some x =>
          rw [opt_some]
          walk_at "drivx"
          exact t_lf hq rfl
      | false =>
        rw [h2] at hq
        walk_at "drivx"
        cases ob with
        | none =>
          rw [opt_none]
          cases oa with
          | none =>
            rw [opt_none]
            walk_at "drivx"
            exact t_lf hq rfl
          | some x =>
            rw [opt_some]
            walk_at "drivx"
            exact t_lf hq rfl
        | some z =>
          rw [opt_some]
          cases oa with
          | none =>
            rw [opt_none]
            walk_at "drivx"
            refine t_ite (fun h4 => ?_) (fun h4 => ?_)
            · walk_at "drivx"
              exact t_lf hq rfl
            · walk_at "drivx"
              exact t_lf hq rfl
          | some x =>
            rw [opt_some]
            walk_at "drivx"
            refine t_ite (fun h4 => ?_) (fun h4 => ?_)
            · walk_at "drivx"
              refine t_lf hq ?_
              show PyData.none = optP (if r ≤ z then none else some (x, z))
              rw [if_pos (of_decide_eq_true h4)]; rfl
            · walk_at "drivx"
              refine t_lf hq ?_
              show _ = optP (if r ≤ z then none else some (x, z))
              rw [if_neg (of_decide_eq_false h4)]; rfl
end
end K92

-- part K92D
set_option Elab.async false
set_option maxRecDepth 100000
set_option maxHeartbeats 400000
namespace K92
open PySem L2 DL
section
variable {P : Program} {w : World} {K : PySem.W.Frag} {mg : Str → Option Value} {base : Heap}
abbrev s_read_cell : Stmt := top 18
abbrev n_read_cell : List Str := ["text", "rows", "found"]
abbrev p_read_cell : List Str := ["text", "rows"]
theorem sc_read_cell : FnScope n_read_cell p_read_cell (defScope s_read_cell) := ⟨rfl, rfl, rfl, by decide +kernel, rfl, by decide +kernel, by decide +kernel⟩
theorem ok_read_cell {f : Addr} {fd : FuncData} (F : Fun K "read_cell" "read_cell" s_read_cell f fd) (T : Txt mg) {C : Addr} (T_err : Err P w K mg base C "NoText" "line") (c_cell_in : Cal P w K mg base CX0 4 "cell_in" p_cell_in con_cell_in) : FnOk P w K mg base (L2.CX P w) (5 + 1) f fd p_read_cell (spOf K p_read_cell.length (con_read_cell C)) := by
  refine fn_okX F sc_read_cell fun cdv A outer s H E hr tk y => ?_
  have nd := sc_read_cell.nd
  refine ⟨_, _, (dss_cons (ds_if (dc_not (dc_val (de_isi (T := "str") (de_var 0) T.b_isinstance T.b_str (by kernel_rfl) (by decide)))) (dss_one (ds_rs T_err rfl tk (hr.mono (by decide)) de_int)) dss_nil) (dss_cons (ds_set (i := 2) nd (de_fc c_cell_in (hr.mono (by decide)) (da_cons (de_split (de_var 0) (da_cons de_str da_nil)) (da_cons (de_var 1) da_nil)))) (dss_cons (ds_if (dc_cmp op_isN od_is (de_var 2) de_non (nomark _)) (dss_one (ds_rs T_err rfl tk (hr.mono (by decide)) de_int)) dss_nil) (dss_one (ds_ret (de_var 2)))))), ?_⟩
  rintro ss q hl ⟨d, r, rfl, ⟨hd, hw⟩, hq⟩
  walk_at "drive"
  refine ⟨hd, ?_⟩
  walk_at "drive"
  cases d with
  | str w =>
    have hw := hw w rfl
    have hs : ∀ x ∈ Txt.split w " ", x.length ≤ 100000 := fun x hx => Nat.le_trans (PyProof.Rows.part_short hx) hw
    simp only [cellR] at hq
    walk_at "drivx"
    refine t_split (z := w) rfl (by omega) ?_
    walk_at "drivx"
    refine ⟨rfl, _, _, rfl, hs, ?_⟩
    generalize cellO (Txt.split w " ") r = o at hq ⊢
    cases o with
    | none =>
      rw [optP_none]
      walk_at "drivx"
      exact hq
    | some p =>
      rw [optP_some]
      walk_at "drivx"
      exact t_lf hq rfl
  | _ =>
    walk_at "drivx"
    exact hq
abbrev s_show_cell : Stmt := top 21
abbrev n_show_cell : List Str := ["address", "rows", "column", "row", "place"]
abbrev p_show_cell : List Str := ["address", "rows"]
theorem sc_show_cell : FnScope n_show_cell p_show_cell (defScope s_show_cell) := ⟨rfl, rfl, rfl, by decide +kernel, rfl, by decide +kernel, by decide +kernel⟩
theorem ok_show_cell {f : Addr} {fd : FuncData} (F : Fun K "show_cell" "show_cell" s_show_cell f fd) (T : Txt mg)  : FnOk P w K mg base CX0 (1 + 1) f fd p_show_cell (spOf K p_show_cell.length con_show_cell) := by
  refine fn_ok F sc_show_cell fun cdv A outer s H hr => ?_
  have nd := sc_show_cell.nd
  refine ⟨_, _, (dss_cons (ds_asg (de_var 0) (dg_tup rfl (dgs_cons (dg_name (i := 2) nd) (dgs_cons (dg_name (i := 3) nd) dgs_nil)))) (dss_cons (ds_set (i := 4) nd (de_if (dc_cmp (op_eqA hr.units) od_eq (de_var 3) (de_neg de_int) (nomark _)) de_str (de_if (dc_cmp (op_eqA hr.units) od_eq (de_var 3) (de_var 1) (nomark _)) de_str (de_callTy call_str_int cd_str (by rfl) T.b_str (by kernel_rfl) (da_cons (de_var 3) da_nil))))) (dss_one (ds_ret (de_joined (dj_cons (de_fmt (de_var 2)) (dj_cons de_str (dj_cons (de_fmt (de_var 4)) dj_nil)))))))), ?_⟩
  rintro ss q y hl ⟨⟨c, z⟩, r, rfl, ⟨h1, h2, h3, h4⟩, hq⟩
  simp only at h1 h2 h3 h4
  have l1 := nT_le (n := c) (by omega)
  have l2 := nT_le (n := z) (by omega)
  unfold nT at l1 l2
  unfold pairD
  walk_at "drivy"
  refine t_ite (fun h => ?_) (fun h => ?_)
  · have h : z = -1 := of_decide_eq_true h
    walk_at "drivy"
    refine t_fmtI (n := c) rfl (by omega) ?_
    walk_at "drivy"
    refine ⟨by rw [show Str.empty.length = 0 from rfl]; omega, ?_⟩
    walk_at "drivy"
    refine ⟨by rw [cat_len, show Str.empty.length = 0 from rfl, show (" " : Str).length = 1 from rfl]; omega, ?_⟩
    walk_at "drivy"
    refine t_fmtS (z := "head") rfl (by rw [show ("head" : Str).length = 4 from rfl]; omega) ?_
    walk_at "drivy"
    refine ⟨by rw [cat_len, cat_len, show Str.empty.length = 0 from rfl, show (" " : Str).length = 1 from rfl]; rw [show ("head" : Str).length = 4 from rfl]; omega, ?_⟩
    walk_at "drivy"
    refine t_lf hq ?_
    unfold cellT rowT
    rw [if_pos h]; rfl
  · have h : z ≠ -1 := of_decide_eq_false h
    walk_at "drivy"
    refine t_ite (fun h0 => ?_) (fun h0 => ?_)
    · have h0 : z = r := of_decide_eq_true h0
      walk_at "drivy"
      refine t_fmtI (n := c) rfl (by omega) ?_
      walk_at "drivy"
      refine ⟨by rw [show Str.empty.length = 0 from rfl]; omega, ?_⟩
      walk_at "drivy"
      refine ⟨by rw [cat_len, show Str.empty.length = 0 from rfl, show (" " : Str).length = 1 from rfl]; omega, ?_⟩
      walk_at "drivy"
      refine t_fmtS (z := "foot") rfl (by rw [show ("foot" : Str).length = 4 from rfl]; omega) ?_
      walk_at "drivy"
      refine ⟨by rw [cat_len, cat_len, show Str.empty.length = 0 from rfl, show (" " : Str).length = 1 from rfl]; rw [show ("foot" : Str).length = 4 from rfl]; omega, ?_⟩
      walk_at "drivy"
      refine t_lf hq ?_
      unfold cellT rowT
      rw [if_neg h, if_pos h0]; rfl
    · have h0 : z ≠ r := of_decide_eq_false h0
      walk_at "drivy"
      refine t_str (i := z) (log2_small (by omega)) ?_
      walk_at "drivy"
      refine t_fmtI (n := c) rfl (by omega) ?_
      walk_at "drivy"
      refine ⟨by rw [show Str.empty.length = 0 from rfl]; omega, ?_⟩
      walk_at "drivy"
      refine ⟨by rw [cat_len, show Str.empty.length = 0 from rfl, show (" " : Str).length = 1 from rfl]; omega, ?_⟩
      walk_at "drivy"
      refine t_fmtS (z := Str.ofString (toString z)) rfl (by omega) ?_
      walk_at "drivy"
      refine ⟨by rw [cat_len, cat_len, show Str.empty.length = 0 from rfl, show (" " : Str).length = 1 from rfl]; omega, ?_⟩
      walk_at "drivy"
      refine t_lf hq ?_
      unfold cellT rowT
      rw [if_neg h, if_neg h0]; rfl
end
end K92

-- part K92E
set_option Elab.async false
set_option maxRecDepth 100000
set_option maxHeartbeats 400000
namespace K92
open PySem L2 DL
def linesI (w : Str) : List Str := (Txt.split w "\n").dropLast
def lastL (w : Str) : Str := ((Txt.split w "\n").getLast?).getD ""
theorem split_lines (w : Str) : Txt.split w "\n" = linesI w ++ [lastL w] := by
  have h : Txt.split w "\n" ≠ [] := fun z => by have := PyProof.Rows.split_pos w "\n"; rw [z] at this; cases this
  unfold linesI lastL
  rw [List.getLast?_eq_some_getLast h]
  exact (List.dropLast_concat_getLast h).symm
abbrev con_lines_of (C : Addr) : Con := fun ss q x => ∃ d : PyData, ss = [.dat d] ∧ (noDict d = true ∧ ∀ w, d = .str w → w.length ≤ 15000) ∧ match d with
  | .str w => q (.dat (.tuple [.list (strsD (linesI w)), .str (lastL w)]))
  | _ => x C [("line", .int 0)]
abbrev con__law_whole : Con := fun ss q _ => ∃ w : Str, ss = [.dat (.str w)] ∧ (w.length ≤ 100000 ∧ PyData.strOk w = true) ∧ q (.dat (rdI w))
theorem strOk_iff (w : Str) : PyData.strOk w = true ↔ ∀ c ∈ tl w, c < 0x110000 := by
  unfold PyData.strOk
  rw [Array.all_eq_true']
  simp [tl]
theorem lay_signs : ∀ {l : List Nat}, (∀ c ∈ l, c < 0x110000) → PyData.canLayAll0 (l.map fun c => .str ⟨#[c]⟩) = true ∧ PyData.depthAll (l.map fun c => .str ⟨#[c]⟩) = 0
  | [], _ => by simp only [List.map_nil, PyData.canLayAll0, PyData.depthAll]; exact ⟨trivial, trivial⟩
  | c :: l, h => by
    obtain ⟨h1, h2⟩ := lay_signs (l := l) fun x hx => h x (List.mem_cons_of_mem _ hx)
    have h3 : PyData.strOk ⟨#[c]⟩ = true := (strOk_iff _).mpr fun x hx => by
      have : x = c := by simpa using hx
      subst this; exact h x List.mem_cons_self
    simp only [List.map_cons, PyData.canLayAll0, PyData.depthAll, PyData.canLay0, PyData.depth, h1, h2, h3]
    exact ⟨rfl, rfl⟩
theorem shaped_signs {l : List Nat} (h : ∀ c ∈ l, c < 0x110000) : SeqAt.shaped (.list (l.map fun c => .str ⟨#[c]⟩)) = true := by
  obtain ⟨h1, h2⟩ := lay_signs h
  unfold SeqAt.shaped
  simp only [PyData.canLay0, PyData.depth, h1, h2]
  rfl
theorem t_neSigns {l : List Nat} {q : DL.Slot → Prop} (h : ∀ c ∈ l, c < 0x110000) (k : q (.dat (.bool (!l.isEmpty)))) : oNe (.list (l.map fun c => .str ⟨#[c]⟩)) (.list []) q := by
  refine ⟨?_, ?_⟩
  · show (scalD _ _ || (SeqAt.shaped _ && SeqAt.shaped _)) = true
    rw [shaped_signs h, show SeqAt.shaped (.list []) = true by decide +kernel, Bool.and_self, Bool.or_true]
  · cases l with
    | nil => exact k
    | cons a l => exact k
section
variable {ρ : List DL.Slot} {Q : DL.Slot → List DL.Slot → Prop}
/-- [sign for sign in p if sign not in DIGITS] -/
theorem e_ni {i j : Nat} {p : Str} (h : ρ[i]? = some (.dat (.str p))) (hp : p.length ≤ 100000) (hj : j < ρ.length) (ho : noOwnAt ρ [j] = true) (k : Q (.own (((tl p).filter fun c => !inDig c).map fun c => .str ⟨#[c]⟩)) ρ) : dLc (dStrI (dVar i)) (hName j) (dTest (dBin oNotIn (dVar j) (dC (.str "0123456789")))) (dVar j) [j] ρ Q := by
  have e : ((signs p).filter fun d => match d with | .str x => !(inDig (x.cps.getD 0 0)) | _ => false).map id = ((tl p).filter fun c => !inDig c).map fun c => .str ⟨#[c]⟩ := by
    rw [List.map_id, signs, List.filter_map]; rfl
  refine t_lc (fun d => match d with | .str x => !(inDig (x.cps.getD 0 0)) | _ => false) id (signs p) ρ (fun R hR => t_dstr (t_var _ h rfl ⟨p, rfl, hR⟩)) ho (by unfold signs; rw [List.length_map]; show (tl p).length ≤ _; rw [tl_len]; exact hp) (fun n d hd acc Z hl hZ => ?_) (by rw [e]; exact k)
  obtain ⟨c, hc, rfl⟩ := signs_get hd
  have hs : ∀ x : DL.Slot, ((wipeD ρ [j]).set j x)[j]? = some x := fun x => by rw [List.getElem?_set_self]; rw [wipeD_length]; exact hj
  have hw : ∀ x : DL.Slot, wipeD ((wipeD ρ [j]).set j x) [j] = wipeD ρ [j] := fun x => by
    show (((ρ.set j .un)).set j x).set j .un = ρ.set j .un
    rw [List.set_set, List.set_set]
  have hx : (!inDig ((⟨#[c]⟩ : Str).cps.getD 0 0)) = !decide (c ∈ DG.cps.toList) := rfl
  refine t_name ⟨⟨hw _, ?_⟩, t_test (t_bin (t_var _ (hs _) rfl (t_c (t_withD _ rfl (t_withD _ rfl (t_notInC (t_withBool _ rfl ?_)))))))⟩
  · show ([j].all fun j' => match ((wipeD ρ [j]).set j (.dat (.str ⟨#[c]⟩)))[j']? with | some s => !s.isOwn | none => true) = true
    rw [List.all_cons, hs]; rfl
  · show if (!inDig c) = true then _ else _
    refine t_ite (fun z => ?_) (fun z => ?_)
    · have hZ : Z (acc ++ [.str ⟨#[c]⟩]) := by
        have := hZ
        simp only at this
        rw [if_pos (show (!inDig ((⟨#[c]⟩ : Str).cps.getD 0 0)) = true from z)] at this
        exact this
      exact t_var _ (hs _) rfl ⟨hw _, hl, hZ⟩
    · have hZ : Z acc := by
        have := hZ
        simp only at this
        rw [if_neg (by rw [show (!inDig ((⟨#[c]⟩ : Str).cps.getD 0 0)) = false from z]; exact Bool.false_ne_true)] at this
        exact this
      exact ⟨hw _, hZ⟩
end
section
variable {P : Program} {w : World} {K : PySem.W.Frag} {mg : Str → Option Value} {base : Heap}
abbrev s_lines_of : Stmt := top 14
abbrev n_lines_of : List Str := ["text", "lines", "last"]
abbrev p_lines_of : List Str := ["text"]
theorem sc_lines_of : FnScope n_lines_of p_lines_of (defScope s_lines_of) := ⟨rfl, rfl, rfl, by decide +kernel, rfl, by decide +kernel, by decide +kernel⟩
theorem ok_lines_of {f : Addr} {fd : FuncData} (F : Fun K "lines_of" "lines_of" s_lines_of f fd) (T : Txt mg) {C : Addr} (T_err : Err P w K mg base C "NoText" "line") : FnOk P w K mg base (L2.CX P w) (4 + 1) f fd p_lines_of (spOf K p_lines_of.length (con_lines_of C)) := by
  refine fn_okX F sc_lines_of fun cdv A outer s H E hr tk y => ?_
  have nd := sc_lines_of.nd
  refine ⟨_, _, (dss_cons (ds_if (dc_not (dc_val (de_isi (T := "str") (de_var 0) T.b_isinstance T.b_str (by kernel_rfl) (by decide)))) (dss_one (ds_rs T_err rfl tk (hr.mono (by decide)) de_int)) dss_nil) (dss_cons (ds_star (i := 1) (j := 2) rfl nd (de_split (de_var 0) (da_cons de_str da_nil))) (dss_one (ds_ret (de_tup (da_cons (de_var 1) (da_cons (de_var 2) da_nil))))))), ?_⟩
  rintro ss q hl ⟨d, rfl, ⟨hd, hw⟩, hq⟩
  walk_at "drive"
  refine ⟨hd, ?_⟩
  walk_at "drive"
  cases d with
  | str w =>
    have hw := hw w rfl
    have hlen : (linesI w).length < 16000 := by
      have := PyProof.Rows.split_le w "\n"
      unfold linesI
      rw [List.length_dropLast]
      omega
    walk_at "drivx"
    refine t_split (z := w) rfl (by omega) ?_
    rw [split_lines]
    walk_at "drivx"
    refine ⟨strsD (linesI w), .str (lastL w), by unfold strsD; rw [List.map_append]; rfl, by rw [strs_len]; exact hlen, ?_⟩
    walk_at "drivx"
    exact t_lf hq rfl
  | _ =>
    walk_at "drivx"
    exact hq
abbrev s__law_whole : Stmt := top 30
abbrev n__law_whole : List Str := ["_law_word", "_law_plain", "_law_sign"]
abbrev p__law_whole : List Str := ["_law_word"]
theorem sc__law_whole : FnScope n__law_whole p__law_whole (defScope s__law_whole) := ⟨rfl, rfl, rfl, by decide +kernel, rfl, by decide +kernel, by decide +kernel⟩
theorem ok__law_whole {f : Addr} {fd : FuncData} (F : Fun K "_law_whole" "_law_whole" s__law_whole f fd) (T : Txt mg)  : FnOk P w K mg base CX0 (0 + 1) f fd p__law_whole (spOf K p__law_whole.length con__law_whole) := by
  refine fn_ok F sc__law_whole fun cdv A outer s H hr => ?_
  have nd := sc__law_whole.nd
  refine ⟨_, _, (dss_cons (ds_set (i := 1) nd (de_if (dc_cmp (op_eqA hr.units) od_eq (de_sl (de_var 0) do_none (do_some de_int)) de_str (nomark _)) (de_sl (de_var 0) (do_some de_int) do_none) (de_var 0))) (dss_cons (ds_if (dc_w (dw_or (dc_cmp (op_eqA hr.units) od_eq (de_var 1) de_str (nomark _)) (dw_or (dc_cmp op_gt od_gt (de_callB call_len cd_len (by rfl) T.b_len (by kernel_rfl) (da_cons (de_var 1) da_nil)) de_int (nomark _)) (dw_or1 (dc_cmp (op_neA hr.units) od_ne (de_lc (own := [("_law_sign", 2)]) rfl nd (di_str (de_var 1)) (by show blkC n__law_whole (defScope s__law_whole) _ _ = true; decide +kernel) (fun _ _ _ _ _ => (dg_name (i := 2) nd)) (fun _ _ _ _ _ => (dts_one (dc_cmp op_notInA (od_notIn (K := K)) (de_var 2) de_str (by with_unfolding_all rfl)))) (fun _ _ _ _ _ => (de_var 2))) (de_lst da_nil) (nomark _)))))) (dss_one (ds_ret de_non)) dss_nil) (dss_cons (ds_if (dc_w (dw_and (dc_cmp (op_eqA hr.units) od_eq (de_ix (de_var 1) de_int) de_str (nomark _)) (dw_and1 (dc_w (dw_or (dc_cmp op_gt od_gt (de_callB call_len cd_len (by rfl) T.b_len (by kernel_rfl) (da_cons (de_var 1) da_nil)) de_int (nomark _)) (dw_or1 (dc_cmp (op_neA hr.units) od_ne (de_var 0) (de_var 1) (nomark _)))))))) (dss_one (ds_ret de_non)) dss_nil) (dss_one (ds_ret (de_callTy cr_int cd_int (by rfl) T.b_int (by kernel_rfl) (da_cons (de_var 0) da_nil))))))), ?_⟩
  rintro ss q y hl ⟨w, rfl, ⟨hw, hk⟩, hq⟩
  have hp := pl_len w
  refine t_seq (t_set (e_pl rfl hw ?_))
  have hkv : ∀ c ∈ tl (pl w), c < 0x110000 := fun c hc => (strOk_iff w).mp hk c (by
    cases e : isNeg w with
    | true => rw [pl_neg e]; exact List.mem_cons_of_mem _ hc
    | false => rw [pl_pos e] at hc; exact hc)
  generalize hv : pl w = v at hp hkv ⊢
  walk_at "drive"
  refine t_ite (fun h1 => ?_) (fun h1 => ?_)
  · walk_at "drive"
    refine t_lf hq (rdI_none (.inl ?_)).symm
    have h1 : v = "" := by simpa using h1
    unfold digs
    rw [hv, h1]; rfl
  · walk_at "drive"
    refine t_ite (fun h2 => ?_) (fun h2 => ?_)
    · walk_at "drive"
      refine t_lf hq (rdI_none (.inl ?_)).symm
      have h2 : (60 : Int) < v.length := by simpa using h2
      have : ¬ (tl v).length ≤ 60 := by rw [tl_len]; omega
      unfold digs
      rw [hv, decide_eq_false this, Bool.and_false]; rfl
    · walk_at "drive"
      refine e_ni rfl (by omega) (Nat.lt_succ_self 2) rfl ?_
      walk_at "drive"
      refine t_neSigns (fun c hc => hkv c ((List.mem_filter.mp hc).1)) ?_
      walk_at "drive"
      have e5 : (!((tl v).filter fun c => !inDig c).isEmpty) = !(tl v).all inDig := by
        have z : ∀ l : List Nat, (l.filter fun c => !inDig c).isEmpty = l.all inDig := fun l => by
          induction l with
          | nil => rfl
          | cons a l ih =>
            cases e : inDig a with
            | true => rw [List.filter_cons_of_neg (by simp [e]), ih, List.all_cons, e]; rfl
            | false => rw [List.filter_cons_of_pos (by simp [e]), List.all_cons, e]; rfl
        rw [z]
      rw [e5]
      refine t_ite (fun h3 => ?_) (fun h3 => ?_)
      · walk_at "drive"
        refine t_lf hq (rdI_none (.inl ?_)).symm
        unfold digs
        rw [hv, show (tl v).all inDig = false by simpa using h3, Bool.and_false]
      · have h3 : (tl v).all inDig = true := by simpa using h3
        have hne : tl v ≠ [] := fun z => by
          have : v = "" := tl_inj z
          rw [this] at h1; cases h1
        obtain ⟨c, r, hc⟩ : ∃ c r, tl v = c :: r := by
          cases e : tl v with
          | nil => exact absurd e hne
          | cons c r => exact ⟨c, r, rfl⟩
        have h2 : ¬ ((60 : Int) < v.length) := by simpa using h2
        have hd : digs (pl w) = true := by
          unfold digs
          rw [hv, h3, Bool.and_true, Bool.and_eq_true, decide_eq_true_eq, decide_eq_true_eq]
          refine ⟨by rw [hc]; exact Nat.succ_le_succ (Nat.zero_le _), by rw [tl_len]; omega⟩
        obtain ⟨n, hn⟩ := int_of hd
        have hwl : w.length ≤ 640 := by
          have := len_pl w
          rw [hv] at this
          omega
        have ht : ((⟨#[c]⟩ : Str) == ("0" : Str)) = decide (c = 48) := by
          by_cases e : c = 48
          · subst e; rfl
          · rw [decide_eq_false e]
            exact beq_false_of_ne fun z => e (by have : [c] = [48] := congrArg tl z; injection this)
        have hd0 : ((tl (pl w)).head? == some 48) = decide (c = 48) := by
          rw [hv, hc]; by_cases e : c = 48 <;> simp [e]
        have hl0 : led w = (decide (c = 48) && !(w == ("0" : Str))) := by
          unfold led; rw [hd0]
        walk_at "drive"
        refine t_ixS c (by omega) (by show atI (tl v) 0 = some c; rw [hc]; exact atI_nat (j := 0) rfl) ?_
        walk_at "drive"
        rw [ht]
        refine t_ite (fun h4 => ?_) (fun h4 => ?_)
        · rw [h4, Bool.true_and] at hl0
          have h4 : c = 48 := of_decide_eq_true h4
          walk_at "drive"
          refine t_ite (fun h5 => ?_) (fun h5 => ?_)
          · walk_at "drive"
            refine t_lf hq (rdI_none (.inr ?_)).symm
            rw [hl0]
            cases e : (w == ("0" : Str)) with
            | false => rfl
            | true =>
              have e : w = "0" := by simpa using e
              subst e
              have : pl ("0" : Str) = "0" := by decide +kernel
              rw [this] at hv
              subst hv
              exact absurd h5 (by decide)
          · walk_at "drive"
            refine t_ite (fun h6 => ?_) (fun h6 => ?_)
            · walk_at "drive"
              refine t_lf hq (rdI_none (.inr ?_)).symm
              rw [hl0]
              cases e : (w == ("0" : Str)) with
              | false => rfl
              | true =>
                have e : w = "0" := by simpa using e
                subst e
                have : pl ("0" : Str) = "0" := by decide +kernel
                rw [this] at hv
                subst hv
                exact absurd h6 (by decide)
            · walk_at "drive"
              refine t_intS n hwl hn ?_
              walk_at "drive"
              refine t_lf hq (rdI_some hd ?_ hn).symm
              have h6 : w = v := by simpa using h6
              have : v.length = 1 := by
                have h5 : ¬ ((1 : Int) < v.length) := by simpa using h5
                have : 1 ≤ (tl v).length := by rw [hc]; exact Nat.succ_le_succ (Nat.zero_le _)
                rw [tl_len] at this
                omega
              have hr : r = [] := by
                have e : (tl v).length = 1 := by rw [tl_len]; exact this
                rw [hc] at e
                exact List.eq_nil_of_length_eq_zero (by simpa using e)
              have : v = "0" := tl_inj (by rw [hc, hr, h4]; rfl)
              rw [hl0, h6, this]; rfl
        · walk_at "drive"
          refine t_intS n hwl hn ?_
          walk_at "drive"
          refine t_lf hq (rdI_some hd ?_ hn).symm
          rw [hl0, h4]; rfl
end
end K92

-- part K92F
set_option Elab.async false
set_option maxRecDepth 100000
set_option maxHeartbeats 400000
namespace K92
open PySem L2 DL
def placeO (ws : List Str) : Option Int → Option (Int × Int)
  | some r => cellO ws r
  | none => match ws with
    | [a, b] => match natO a, rowO b with
      | some x, some y => some (x, y)
      | _, _ => none
    | _ => none
theorem nat_none {a : Str} (h : rdO a = none) : natO a = none := by unfold natO; rw [h]
theorem nat_neg {a : Str} {x : Int} (h : rdO a = some x) (n : x < 0) : natO a = none := by unfold natO; rw [h]; exact if_neg (by omega)
theorem nat_pos {a : Str} {x : Int} (h : rdO a = some x) (n : ¬ x < 0) : natO a = some x := by unfold natO; rw [h]; exact if_pos (by omega)
theorem place_none {a b : Str} (h : natO a = none) (rows : Option Int) : placeO [a, b] rows = none := by
  cases rows with
  | none => simp only [placeO, h]
  | some r => simp only [placeO, cellO, h]
theorem place_head {a b : Str} {x : Int} (h : natO a = some x) (e : (b == ("head" : Str)) = true) (rows : Option Int) : placeO [a, b] rows = some (x, -1) := by
  cases rows with
  | none => simp only [placeO, h, rowO, e, if_true]
  | some r => simp only [placeO, cellO, h, e, if_true]
theorem place_foot {a b : Str} {x r : Int} (h : natO a = some x) (e : (b == ("head" : Str)) = false) (e2 : (b == ("foot" : Str)) = true) : placeO [a, b] (some r) = some (x, r) := by
  simp only [placeO, cellO, h, e, e2, if_true, Bool.false_eq_true, if_false]
theorem place_rowN {a b : Str} {x : Int} (h : natO a = some x) (e : (b == ("head" : Str)) = false) : placeO [a, b] none = (match natO b with | some y => some (x, y) | none => none) := by
  simp only [placeO, h, rowO, e, Bool.false_eq_true, if_false] <;> cases natO b <;> rfl
theorem place_rowS {a b : Str} {x r : Int} (h : natO a = some x) (e : (b == ("head" : Str)) = false) (e2 : (b == ("foot" : Str)) = false) : placeO [a, b] (some r) = (match natO b with | some y => if r ≤ y then none else some (x, y) | none => none) := by
  simp only [placeO, cellO, h, e, e2, Bool.false_eq_true, if_false] <;> cases natO b <;> rfl
abbrev con__law_place : Con := fun ss q _ => ∃ (ws : List Str) (rows : Option Int), ss = [.dat (.list (strsD ws)), .dat (opt rows)] ∧ (∀ x ∈ ws, x.length ≤ 100000 ∧ PyData.strOk x = true) ∧ q (.dat (optP (placeO ws rows)))
section
variable {P : Program} {w : World} {K : PySem.W.Frag} {mg : Str → Option Value} {base : Heap}
abbrev s__law_place : Stmt := top 31
abbrev n__law_place : List Str := ["_law_words", "_law_rows", "_law_column", "_law_row"]
abbrev p__law_place : List Str := ["_law_words", "_law_rows"]
theorem sc__law_place : FnScope n__law_place p__law_place (defScope s__law_place) := ⟨rfl, rfl, rfl, by decide +kernel, rfl, by decide +kernel, by decide +kernel⟩
theorem ok__law_place {f : Addr} {fd : FuncData} (F : Fun K "_law_place" "_law_place" s__law_place f fd) (T : Txt mg) (c__law_whole : Cal P w K mg base CX0 1 "_law_whole" p__law_whole con__law_whole) : FnOk P w K mg base CX0 (4 + 1) f fd p__law_place (spOf K p__law_place.length con__law_place) := by
  refine fn_ok F sc__law_place fun cdv A outer s H hr => ?_
  have nd := sc__law_place.nd
  refine ⟨_, _, (dss_cons (ds_if (dc_cmp (op_neA hr.units) od_ne (de_callB call_len cd_len (by rfl) T.b_len (by kernel_rfl) (da_cons (de_var 0) da_nil)) de_int (nomark _)) (dss_one (ds_ret de_non)) dss_nil) (dss_cons (ds_par2 (i := 2) (j := 3) rfl nd (db_cons (de_fc c__law_whole (hr.mono (by decide)) (da_cons (de_ix (de_var 0) de_int) da_nil)) (db_cons (de_fc c__law_whole (hr.mono (by decide)) (da_cons (de_ix (de_var 0) de_int) da_nil)) db_nil)) (by rfl)) (dss_cons (ds_if (dc_w (dw_or (dc_cmp op_isN od_is (de_var 2) de_non (nomark _)) (dw_or1 (dc_cmp (op_ltA hr.units0) od_lt (de_var 2) de_int (nomark _))))) (dss_one (ds_ret de_non)) dss_nil) (dss_cons (ds_if (dc_w (dw_or (dc_cmp (op_eqA hr.units) od_eq (de_ix (de_var 0) de_int) de_str (nomark _)) (dw_or1 (dc_w (dw_and (dc_cmp op_notN od_isNot (de_var 1) de_non (nomark _)) (dw_and1 (dc_cmp (op_eqA hr.units) od_eq (de_ix (de_var 0) de_int) de_str (nomark _)))))))) (dss_one (ds_ret (de_tup (da_cons (de_var 2) (da_cons (de_if (dc_cmp (op_eqA hr.units) od_eq (de_ix (de_var 0) de_int) de_str (nomark _)) (de_neg de_int) (de_var 1)) da_nil))))) dss_nil) (dss_cons (ds_if (dc_w (dw_or (dc_cmp op_isN od_is (de_var 3) de_non (nomark _)) (dw_or (dc_cmp (op_ltA hr.units0) od_lt (de_var 3) de_int (nomark _)) (dw_or1 (dc_w (dw_and (dc_cmp op_notN od_isNot (de_var 1) de_non (nomark _)) (dw_and1 (dc_cmp op_ge od_ge (de_var 3) (de_var 1) (nomark _))))))))) (dss_one (ds_ret de_non)) dss_nil) (dss_one (ds_ret (de_tup (da_cons (de_var 2) (da_cons (de_var 3) da_nil)))))))))), ?_⟩
  rintro ss q y hl ⟨ws, rows, rfl, hs, hq⟩
  walk_at "drive"
  refine t_ite (fun h => ?_) (fun h => ?_)
  · walk_at "drive"
    refine t_lf hq ?_
    have h : ws.length ≠ 2 := by
      rw [strs_len] at h
      intro z; rw [z] at h; cases h
    cases rows <;> (match ws, h with
    | [], _ => rfl
    | [_], _ => rfl
    | [_, _], h => exact absurd rfl h
    | _ :: _ :: _ :: _, _ => rfl)
  · obtain ⟨a, b, rfl⟩ : ∃ a b, ws = [a, b] := by
      have h : ws.length = 2 := by
        rw [strs_len] at h
        have : ((ws.length : Int) == 2) = true := by simpa using h
        have := of_decide_eq_true this
        omega
      match ws, h with
      | [a, b], _ => exact ⟨a, b, rfl⟩
    have ha := hs a (by simp)
    have hb := hs b (by simp)
    walk_at "drivx"
    refine ⟨rfl, _, rfl, ha, ?_⟩
    walk_at "drivx"
    refine ⟨rfl, _, rfl, hb, ?_⟩
    refine ⟨rfl, ?_⟩
    rw [rdI_opt, rdI_opt]
    cases ha0 : rdO a with
    | none =>
      rw [opt_none]
      walk_at "drivx"
      refine t_lf hq ?_
      rw [place_none (nat_none ha0)]; rfl
    | some x =>
      rw [opt_some]
      walk_at "drivx"
      refine t_ite (fun h2 => ?_) (fun h2 => ?_)
      · walk_at "drivx"
        refine t_lf hq ?_
        rw [place_none (nat_neg ha0 (of_decide_eq_true h2))]; rfl
      · have ha1 := nat_pos ha0 (of_decide_eq_false h2)
        walk_at "drivx"
        cases h1 : (b == ("head" : Str)) with
        | true =>
          walk_at "drivx"
          rw [h1]
          walk_at "drivx"
          refine t_lf hq ?_
          rw [place_head ha1 h1]; rfl
        | false =>
          walk_at "drivx"
          cases rows with
          | none =>
            rw [place_rowN ha1 h1] at hq
            rw [opt_none]
            cases ho : rdO b with
            | none =>
              rw [nat_none ho] at hq
              rw [opt_none]
              walk_at "drivx"
              exact t_lf hq rfl
            | some z =>
              rw [opt_some]
              walk_at "drivx"
              refine t_ite (fun h4 => ?_) (fun h4 => ?_)
              · rw [nat_neg ho (of_decide_eq_true h4)] at hq
                walk_at "drivx"
                exact t_lf hq rfl
              · rw [nat_pos ho (of_decide_eq_false h4)] at hq
                walk_at "drivx"
                exact t_lf hq rfl
          | some r =>
            rw [opt_some]
            cases h5 : (b == ("foot" : Str)) with
            | true =>
              rw [place_foot ha1 h1 h5] at hq
              walk_at "drivx"
              rw [h5]
              walk_at "drivx"
              rw [h1]
              walk_at "drivx"
              exact t_lf hq rfl
            | false =>
              rw [place_rowS ha1 h1 h5] at hq
              cases ho : rdO b with
              | none =>
                rw [nat_none ho] at hq
                rw [opt_none]
                walk_at "drivx"
                rw [h5]
                walk_at "drivx"
                exact t_lf hq rfl
              | some z =>
                rw [opt_some]
                walk_at "drivx"
                rw [h5]
                walk_at "drivx"
                refine t_ite (fun h4 => ?_) (fun h4 => ?_)
                · rw [nat_neg ho (of_decide_eq_true h4)] at hq
                  walk_at "drivx"
                  exact t_lf hq rfl
                · rw [nat_pos ho (of_decide_eq_false h4)] at hq
                  walk_at "drivx"
                  refine t_ite (fun h6 => ?_) (fun h6 => ?_)
                  · walk_at "drivx"
                    refine t_lf hq ?_
                    show PyData.none = optP (if r ≤ z then none else some (x, z))
                    rw [if_pos (of_decide_eq_true h6)]; rfl
                  · walk_at "drivx"
                    refine t_lf hq ?_
                    show _ = optP (if r ≤ z then none else some (x, z))
                    rw [if_neg (of_decide_eq_false h6)]; rfl
end
end K92

-- part K92G
set_option Elab.async false
set_option maxRecDepth 100000
set_option maxHeartbeats 400000
namespace K92
open PySem L2 DL
theorem tl_cat (a b : Str) : tl (a ++ b) = tl a ++ tl b := by
  show (a.cps ++ b.cps).toList = _
  rw [Array.toList_append]
theorem strOk_cat {a b : Str} (h : PyData.strOk (a ++ b) = true) : PyData.strOk a = true ∧ PyData.strOk b = true := by
  rw [strOk_iff] at *
  rw [strOk_iff, tl_cat] at *
  exact ⟨fun c hc => h c (List.mem_append_left _ hc), fun c hc => h c (List.mem_append_right _ hc)⟩
theorem cat_ok {a b : Str} (h1 : PyData.strOk a = true) (h2 : PyData.strOk b = true) : PyData.strOk (a ++ b) = true := by
  rw [strOk_iff] at h1 h2
  rw [strOk_iff, tl_cat]
  intro c hc
  rcases List.mem_append.mp hc with h | h
  · exact h1 c h
  · exact h2 c h
theorem join_parts_ok {s : Str} : ∀ {l : List Str}, PyData.strOk (Str.join s l) = true → ∀ x ∈ l, PyData.strOk x = true
  | [], _, x, hx => by cases hx
  | [a], h, x, hx => by rw [List.mem_singleton.mp hx]; exact h
  | a :: b :: r, h, x, hx => by
    have h : PyData.strOk (a ++ s ++ Str.join s (b :: r)) = true := h
    obtain ⟨h1, h2⟩ := strOk_cat h
    rcases List.mem_cons.mp hx with rfl | hx
    · exact (strOk_cat h1).1
    · exact join_parts_ok h2 x hx
theorem split_ok {w s : Str} (h : PyData.strOk w = true) : ∀ x ∈ Txt.split w s, PyData.strOk x = true := by
  refine join_parts_ok (s := s) ?_
  rw [StrLaws.join_split]; exact h
def outD {α : Type} (f : α → PyData) : Except Int α → PyData
  | .ok p => .tuple [.str "read", f p]
  | .error n => .tuple [.str "notext", .int n]
/-- what may be handed to a reader -/
def inOk (d : PyData) : Prop := noDict d = true ∧ ∀ w, d = .str w → w.length ≤ 15000 ∧ PyData.strOk w = true
abbrev con__law_cell_due : Con := fun ss q _ => ∃ (d : PyData) (r : Int), ss = [.dat d, .dat (.int r)] ∧ inOk d ∧ q (.dat (outD pairD (cellR d r)))
abbrev con__law_cell_heard : Con := con__law_cell_due
section
variable {P : Program} {w : World} {K : PySem.W.Frag} {mg : Str → Option Value} {base : Heap}
abbrev s__law_cell_due : Stmt := top 33
abbrev n__law_cell_due : List Str := ["_law_thing", "_law_rows", "_law_address"]
abbrev p__law_cell_due : List Str := ["_law_thing", "_law_rows"]
theorem sc__law_cell_due : FnScope n__law_cell_due p__law_cell_due (defScope s__law_cell_due) := ⟨rfl, rfl, rfl, by decide +kernel, rfl, by decide +kernel, by decide +kernel⟩
theorem ok__law_cell_due {f : Addr} {fd : FuncData} (F : Fun K "_law_cell_due" "_law_cell_due" s__law_cell_due f fd) (T : Txt mg) (c__law_place : Cal P w K mg base CX0 5 "_law_place" p__law_place con__law_place) : FnOk P w K mg base CX0 (5 + 1) f fd p__law_cell_due (spOf K p__law_cell_due.length con__law_cell_due) := by
  refine fn_ok F sc__law_cell_due fun cdv A outer s H hr => ?_
  have nd := sc__law_cell_due.nd
  refine ⟨_, _, (dss_cons (ds_if (dc_not (dc_val (de_isi (T := "str") (de_var 0) T.b_isinstance T.b_str (by kernel_rfl) (by decide)))) (dss_one (ds_ret (de_tup (da_cons de_str (da_cons de_int da_nil))))) dss_nil) (dss_cons (ds_set (i := 2) nd (de_fc c__law_place (hr.mono (by decide)) (da_cons (de_split (de_var 0) (da_cons de_str da_nil)) (da_cons (de_var 1) da_nil)))) (dss_one (ds_ret (de_if (dc_cmp op_isN od_is (de_var 2) de_non (nomark _)) (de_tup (da_cons de_str (da_cons de_int da_nil))) (de_tup (da_cons de_str (da_cons (de_var 2) da_nil)))))))), ?_⟩
  rintro ss q y hl ⟨d, r, rfl, ⟨hd, hw⟩, hq⟩
  walk_at "drive"
  refine ⟨hd, ?_⟩
  walk_at "drive"
  cases d with
  | str w =>
    obtain ⟨hw, hk⟩ := hw w rfl
    have hs : ∀ x ∈ Txt.split w " ", x.length ≤ 100000 ∧ PyData.strOk x = true := fun x hx => ⟨Nat.le_trans (PyProof.Rows.part_short hx) (by omega), split_ok hk x hx⟩
    simp only [cellR] at hq
    walk_at "drivx"
    refine t_split (z := w) rfl (by omega) ?_
    walk_at "drivx"
    refine ⟨rfl, _, some r, rfl, hs, ?_⟩
    rw [show placeO (Txt.split w " ") (some r) = cellO (Txt.split w " ") r from rfl]
    generalize cellO (Txt.split w " ") r = o at hq ⊢
    cases o with
    | none =>
      rw [optP_none]
      walk_at "drivx"
      exact t_lf hq rfl
    | some p =>
      rw [optP_some]
      walk_at "drivx"
      exact t_lf hq rfl
  | _ =>
    walk_at "drivx"
    exact t_lf hq rfl
abbrev s__law_cell_heard : Stmt := top 34
abbrev n__law_cell_heard : List Str := ["_law_thing", "_law_rows", "e"]
abbrev p__law_cell_heard : List Str := ["_law_thing", "_law_rows"]
theorem sc__law_cell_heard : FnScope n__law_cell_heard p__law_cell_heard (defScope s__law_cell_heard) := ⟨rfl, rfl, rfl, by decide +kernel, rfl, by decide +kernel, by decide +kernel⟩
theorem ok__law_cell_heard {f : Addr} {fd : FuncData} (F : Fun K "_law_cell_heard" "_law_cell_heard" s__law_cell_heard f fd) (T : Txt mg) {C C3 C2 : Addr} (T_err : Err P w K mg base C "NoText" "line") (T_cat : Catch K mg C C3 "SheetError") (m_NoText : mg "NoText" = some (.ref C)) (m_NoCommand : mg "NoCommand" = some (.ref C2)) (is_NoText : PySem.W.kitOne K (.ref C) (.ref C) = some true) (is_NoCommand : PySem.W.kitOne K (.ref C) (.ref C2) = some false) (c_read_cell : Cal P w K mg base (L2.CX P w) 6 "read_cell" p_read_cell (con_read_cell C)) : FnOk P w K mg base CX0 (6 + 1) f fd p__law_cell_heard (spOf K p__law_cell_heard.length con__law_cell_heard) := by
  refine fn_ok F sc__law_cell_heard fun cdv A outer s H hr => ?_
  have nd := sc__law_cell_heard.nd
  refine ⟨_, _, (dss_one (ds_tr T_cat (i := 2) nd takes_no (fun W pn xe xc tk => (dss_one (ds_ret (de_tup (da_cons de_str (da_cons (de_fcX (K' := K) c_read_cell rfl (hr.mono (by decide)) tk (da_cons (de_var 0) (da_cons (de_var 1) da_nil))) da_nil)))))) (fun a dd oe pn hz hf fs => (dss_one (ds_ret (de_if (dc_w (dw_and (dc_val (de_isE (i := 2) (fs := fs) T_err.exc hz hf T.b_isinstance m_NoText is_NoText)) (dw_and1 (dc_not (dc_val (de_isE (i := 2) (fs := fs) T_err.exc hz hf T.b_isinstance m_NoCommand is_NoCommand)))))) (de_tup (da_cons de_str (da_cons (de_xf (i := 2) (fs := fs) T_err.xf T_err.noF hz hf) da_nil))) (de_tup (da_cons de_str (da_cons de_non da_nil))))))))), ?_⟩
  rintro ss q y hl ⟨d, r, rfl, ⟨hd, hw⟩, hq⟩
  walk_at "drive"
  refine ⟨rfl, d, r, rfl, ⟨hd, fun w e => Nat.le_trans (hw w e).1 (by decide)⟩, ?_⟩
  generalize cellR d r = o at hq ⊢
  cases o with
  | ok p =>
    unfold pairD
    walk_at "drivy"
    exact t_lf hq rfl
  | error n =>
    refine ⟨rfl, fun a dd => ?_⟩
    walk_at "drivy"
    exact t_lf hq rfl
end
end K92

-- part K92I
set_option Elab.async false
set_option maxRecDepth 100000
set_option maxHeartbeats 400000
namespace K92
open PySem L2 DL
abbrev KV := List (List Key × PyData)
def pk (p : Int × Int) : List Key := [.inl p.1, .inl p.2]
def leP (p e : Int × Int) : Bool := leTB [p.1, p.2] [e.1, e.2]
/-- the lines from the one of number at on -/
def rcL : List Str → Nat → KV → Option (Int × Int) → Except Int KV
  | [], _, acc, _ => .ok acc
  | l :: ls, i, acc, el => match cinO (Txt.split l " ") with
    | none => .error ((i : Int) + 1)
    | some (p, n) => if (match el with | some e => leP p e | none => false) = true then .error ((i : Int) + 1) else rcL ls (i + 1) (putD acc (pk p) (.int n)) (some p)
def contR : PyData → Except Int KV
  | .str w => match rcL (linesI w) 0 [] none with
    | .ok f => if (lastL w == ("" : Str)) = true then .ok f else .error (((linesI w).length : Int) + 1)
    | .error n => .error n
  | _ => .error 0
abbrev con_read_contents (C : Addr) : Con := fun ss q x => ∃ d : PyData, ss = [.dat d] ∧ inOk d ∧ match contR d with
  | .ok f => q (.ownT f)
  | .error n => x C [("line", .int n)]
theorem numbered_get {ds : List PyData} {i : Nat} {d : PyData} (h : (DL.numbered ds)[i]? = some d) : ∃ e, ds[i]? = some e ∧ d = .tuple [.int (i : Int), e] := by
  unfold DL.numbered at h
  rw [List.getElem?_map, List.getElem?_zipIdx] at h
  cases e : ds[i]? with
  | none => rw [e] at h; cases h
  | some x => rw [e] at h; refine ⟨x, rfl, ?_⟩; have h := Option.some.inj h; rw [← h]; simp
theorem strs_get {l : List Str} {i : Nat} {e : PyData} (h : (strsD l)[i]? = some e) : ∃ z, l[i]? = some z ∧ e = .str z := by
  unfold strsD at h
  rw [List.getElem?_map] at h
  cases z : l[i]? with
  | none => rw [z] at h; cases h
  | some x => rw [z] at h; exact ⟨x, rfl, (Option.some.inj h).symm⟩
theorem drop_get {α : Type} {l : List α} {i : Nat} {x : α} (h : l[i]? = some x) : l.drop i = x :: l.drop (i + 1) := by
  obtain ⟨hi, e⟩ := List.getElem?_eq_some_iff.mp h
  rw [List.drop_eq_getElem_cons hi, e]
theorem t_for {ti : DTI} {g : DTG} {tb : DTS} {D : DEnds} {ρ : List DL.Slot} (h : ti ρ fun ds ρ1 => ∃ Inv : Nat → List DL.Slot → Prop, Inv 0 ρ1 ∧ (∀ (i : Nat) (d : PyData) (ρ' : List DL.Slot), ds[i]? = some d → Inv i ρ' → g (.dat d) ρ' fun ρ2 => tb { D with nx := Inv (i + 1), ct := Inv (i + 1), bk := D.nx } ρ2) ∧ ∀ ρ', Inv ds.length ρ' → D.nx ρ') : dFor ti g tb D ρ := h
theorem t_leP {a b c d : Int} {q : DL.Slot → Prop} (h : q (.dat (.bool (leTB [a, b] [c, d])))) : oLe (.tuple [.int a, .int b]) (.tuple [.int c, .int d]) q := h
theorem numbered_len (ds : List PyData) : (DL.numbered ds).length = ds.length := by unfold DL.numbered; rw [List.length_map, List.length_zipIdx]
theorem putD_len (a : KV) (k : List Key) (v : PyData) : (putD a k v).length ≤ a.length + 1 := by
  unfold putD
  split
  · rw [List.length_map]; omega
  · rw [List.length_append]; simp
section
variable {P : Program} {w : World} {K : PySem.W.Frag} {mg : Str → Option Value} {base : Heap}
abbrev s_read_contents : Stmt := top 16
abbrev n_read_contents : List Str := ["text", "lines", "last", "found", "elder", "at", "line", "told"]
abbrev p_read_contents : List Str := ["text"]
theorem sc_read_contents : FnScope n_read_contents p_read_contents (defScope s_read_contents) := ⟨rfl, rfl, rfl, by decide +kernel, rfl, by decide +kernel, by decide +kernel⟩
theorem ok_read_contents {f : Addr} {fd : FuncData} (F : Fun K "read_contents" "read_contents" s_read_contents f fd) (T : Txt mg) {C : Addr} (T_err : Err P w K mg base C "NoText" "line") (c_lines_of : Cal P w K mg base (L2.CX P w) 5 "lines_of" p_lines_of (con_lines_of C)) (c_content_in : Cal P w K mg base CX0 4 "content_in" p_content_in con_content_in) : FnOk P w K mg base (L2.CX P w) (5 + 1) f fd p_read_contents (spOf K p_read_contents.length (con_read_contents C)) := by
  refine fn_okX F sc_read_contents fun cdv A outer s H E hr tk y => ?_
  have nd := sc_read_contents.nd
  refine ⟨_, _, (dss_cons (ds_asg (de_fcX (K' := K) c_lines_of rfl (hr.mono (by decide)) tk (da_cons (de_var 0) da_nil)) (dg_tup rfl (dgs_cons (dg_name (i := 1) nd) (dgs_cons (dg_name (i := 2) nd) dgs_nil)))) (dss_cons (ds_par2 (i := 3) (j := 4) rfl nd (db_cons de_dnewT (db_cons de_non db_nil)) (by rfl)) (dss_cons (ds_for (passes_of rfl) rfl (di_enum (da_cons (de_var 1) da_nil) T.b_enumerate) (dg_tup rfl (dgs_cons (dg_name (i := 5) nd) (dgs_cons (dg_name (i := 6) nd) dgs_nil))) (dss_cons (ds_set (i := 7) nd (de_fc c_content_in (hr.mono (by decide)) (da_cons (de_var 6) da_nil))) (dss_cons (ds_if (dc_w (dw_or (dc_cmp op_isN od_is (de_var 7) de_non (nomark _)) (dw_or1 (dc_w (dw_and (dc_cmp op_notN od_isNot (de_var 4) de_non (nomark _)) (dw_and1 (dc_cmp (op_leA hr.units0) od_le (de_ix (de_var 7) de_int) (de_var 4) (nomark _)))))))) (dss_one (ds_rs T_err rfl tk (hr.mono (by decide)) (de_bin op_addA od_add (de_var 5) de_int))) dss_nil) (dss_cons (ds_set (i := 4) nd (de_ix (de_var 7) de_int)) (dss_one (ds_putT (i := 3) (units1 hr) (de_var 4) (de_ix (de_var 7) de_int))))))) (dss_cons (ds_if (dc_cmp (op_neA hr.units) od_ne (de_var 2) de_str (nomark _)) (dss_one (ds_rs T_err rfl tk (hr.mono (by decide)) (de_bin op_addA od_add (de_callB call_len cd_len (by rfl) T.b_len (by kernel_rfl) (da_cons (de_var 1) da_nil)) de_int))) dss_nil) (dss_one (ds_ret (de_var 3))))))), ?_⟩
  rintro ss q hl ⟨d, rfl, ⟨hd, hw⟩, hq⟩
  walk_at "drive"
  refine ⟨rfl, d, rfl, ⟨hd, fun w e => (hw w e).1⟩, ?_⟩
  cases d with
  | str w =>
    obtain ⟨hw, hk⟩ := hw w rfl
    simp only [contR] at hq
    walk_at "drivy"
    have hlen : (linesI w).length < 16000 := by
      have := PyProof.Rows.split_le w "
"
      unfold linesI
      rw [List.length_dropLast]
      omega
    have hsl : ∀ x ∈ linesI w, x.length ≤ 100000 := fun x hx => by
      have : x ∈ Txt.split w "
" := by rw [split_lines]; exact List.mem_append_left _ hx
      have := PyProof.Rows.part_short this
      omega
    refine t_for ?_
    walk_at "drivy"
    refine ⟨fun i ρ' => ∃ acc el s5 s6 s7, ρ' = [.dat (.str w), .dat (.list (strsD (linesI w))), .dat (.str (lastL w)), .ownT acc, .dat (optP el), s5, s6, s7] ∧ acc.length ≤ i ∧ rcL ((linesI w).drop i) i acc el = rcL (linesI w) 0 [] none, ⟨[], none, _, _, _, rfl, Nat.le_refl _, rfl⟩, fun i d ρ' hd iv => ?_, fun ρ' iv => ?_⟩
    · obtain ⟨acc, el, s5, s6, s7, rfl, ha, hr⟩ := iv
      obtain ⟨e, he, rfl⟩ := numbered_get hd
      obtain ⟨l, hl2, rfl⟩ := strs_get he
      have hi : i < 16000 := Nat.lt_trans (List.getElem?_eq_some_iff.mp hl2).1 hlen
      rw [drop_get hl2, rcL] at hr
      walk_at "drivy"
      rw [← hr] at hq
      refine ⟨hsl l (List.mem_of_getElem? hl2), ?_⟩
      generalize cinO (Txt.split l " ") = o at hq hr ⊢
      cases o with
      | none =>
        rw [show cinD none = PyData.none from rfl]
        walk_at "drivy"
        exact hq
      | some pn =>
        obtain ⟨p, n⟩ := pn
        rw [show cinD (some (p, n)) = .tuple [.tuple [.int p.1, .int p.2], .int n] from rfl]
        cases el with
        | none =>
          rw [optP_none]
          walk_at "drivz"
          refine ⟨show acc.length < 100000 by omega, putD acc (pk p) (.int n), some p, _, _, _, rfl, Nat.le_trans (putD_len _ _ _) (Nat.succ_le_succ ha), hr⟩
        | some e =>
          rw [optP_some]
          walk_at "drivy"
          refine t_leP ?_
          walk_at "drivy"
          refine t_ite (fun h => ?_) (fun h => ?_)
          · have h : leP p e = true := h
            simp only [h, if_true] at hq
            walk_at "drivy"
            exact hq
          · have h : leP p e = false := h
            simp only [h, Bool.false_eq_true, if_false] at hr
            walk_at "drivz"
            refine ⟨show acc.length < 100000 by omega, putD acc (pk p) (.int n), some p, _, _, _, rfl, Nat.le_trans (putD_len _ _ _) (Nat.succ_le_succ ha), hr⟩
    · obtain ⟨acc, el, s5, s6, s7, rfl, ha, hr⟩ := iv
      rw [numbered_len, strs_len, List.drop_length, rcL] at hr
      rw [← hr] at hq
      walk_at "drivy"
      cases h : (lastL w == ("" : Str)) with
      | true =>
        simp only [h, if_true] at hq
        walk_at "drivy"
        exact hq
      | false =>
        simp only [h, Bool.false_eq_true, if_false] at hq
        walk_at "drivy"
        rw [strs_len]
        exact hq
  | _ => exact hq
end
end K92

-- part K92J
set_option Elab.async false
set_option maxRecDepth 100000
set_option maxHeartbeats 400000
namespace K92
open PySem L2 DL
abbrev con__law_noted_contents : Con := fun ss q _ => ∃ d : PyData, ss = [.dat d] ∧ inOk d ∧ q (.dat (outD dT (contR d)))
section
variable {P : Program} {w : World} {K : PySem.W.Frag} {mg : Str → Option Value} {base : Heap}
abbrev s__law_noted_contents : Stmt := top 29
abbrev n__law_noted_contents : List Str := ["_law_thing", "e"]
abbrev p__law_noted_contents : List Str := ["_law_thing"]
theorem sc__law_noted_contents : FnScope n__law_noted_contents p__law_noted_contents (defScope s__law_noted_contents) := ⟨rfl, rfl, rfl, by decide +kernel, rfl, by decide +kernel, by decide +kernel⟩
theorem ok__law_noted_contents {f : Addr} {fd : FuncData} (F : Fun K "_law_noted_contents" "_law_noted_contents" s__law_noted_contents f fd) (T : Txt mg) {C C3 C2 : Addr} (T_err : Err P w K mg base C "NoText" "line") (T_cat : Catch K mg C C3 "SheetError") (m_NoText : mg "NoText" = some (.ref C)) (m_NoCommand : mg "NoCommand" = some (.ref C2)) (is_NoText : PySem.W.kitOne K (.ref C) (.ref C) = some true) (is_NoCommand : PySem.W.kitOne K (.ref C) (.ref C2) = some false) (c_read_contents : Cal P w K mg base (L2.CX P w) 6 "read_contents" p_read_contents (con_read_contents C)) : FnOk P w K mg base CX0 (6 + 1) f fd p__law_noted_contents (spOf K p__law_noted_contents.length con__law_noted_contents) := by
  refine fn_ok F sc__law_noted_contents fun cdv A outer s H hr => ?_
  have nd := sc__law_noted_contents.nd
  refine ⟨_, _, (dss_one (ds_tr T_cat (i := 1) nd takes_no (fun W pn xe xc tk => (dss_one (ds_ret (de_tup (da_cons de_str (da_cons (de_fcX (K' := K) c_read_contents rfl (hr.mono (by decide)) tk (da_cons (de_var 0) da_nil)) da_nil)))))) (fun a dd oe pn hz hf fs => (dss_one (ds_ret (de_if (dc_w (dw_and (dc_val (de_isE (i := 1) (fs := fs) T_err.exc hz hf T.b_isinstance m_NoText is_NoText)) (dw_and1 (dc_not (dc_val (de_isE (i := 1) (fs := fs) T_err.exc hz hf T.b_isinstance m_NoCommand is_NoCommand)))))) (de_tup (da_cons de_str (da_cons (de_xf (i := 1) (fs := fs) T_err.xf T_err.noF hz hf) da_nil))) (de_tup (da_cons de_str (da_cons de_non da_nil))))))))), ?_⟩
  rintro ss q y hl ⟨d, rfl, hd, hq⟩
  walk_at "drive"
  refine ⟨rfl, d, rfl, hd, ?_⟩
  generalize contR d = o at hq ⊢
  cases o with
  | ok p =>
    walk_at "drivy"
    exact t_lf hq rfl
  | error n =>
    refine ⟨rfl, fun a dd => ?_⟩
    walk_at "drivy"
    exact t_lf hq rfl
end
end K92

-- part K92L
set_option Elab.async false
set_option maxRecDepth 100000
set_option maxHeartbeats 4000000
namespace K92
open PySem L2 DL
abbrev con__law_contents_due : Con := con__law_noted_contents
theorem cut_two (l : List PyData) : cutD l none (some 2) = l.take 2 := by
  have e : HT.sIx l.length l.length (some 2) = min 2 l.length := HT.sIx_nat _ _ 2
  unfold cutD
  rw [e, HT.sIx_none, List.drop_zero, Nat.sub_zero]
  by_cases h : 2 ≤ l.length
  · rw [Nat.min_eq_left h]
  · rw [Nat.min_eq_right (by omega), List.take_of_length_le (Nat.le_refl _), List.take_of_length_le (by omega)]
theorem cin3 (a b c : Str) : cinO [a, b, c] = match placeO [a, b] none, rdO c with
    | some p, some n => if farO (some n) = true then some (p, n) else none
    | _, _ => none := by
  simp only [cinO, placeO]
  cases natO a <;> cases rowO b <;> cases rdO c <;> rfl
theorem t_pow {i j : Int} {q : DL.Slot → Prop} (c : CPow i j) (h : q (.dat (.int (i ^ j.toNat)))) : oI CPow (fun i j => i ^ j.toNat) (.int i) (.int j) q := ⟨c, h⟩
theorem far_abs {n : Int} {b : Bool} (h : decide ((10 : Int) ^ ((12 : Int).toNat) < if n < 0 then -n else n) = b) : farO (some n) = !b := by
  rw [far_some]
  cases b with
  | true =>
    have h := of_decide_eq_true h
    have : (10 : Int) ^ ((12 : Int).toNat) = 1000000000000 := by decide
    rw [this] at h
    by_cases h0 : n < 0
    · rw [if_pos h0] at h
      rw [decide_eq_false (p := -10 ^ 12 ≤ n) (by omega)]; rfl
    · rw [if_neg h0] at h
      rw [decide_eq_false (p := n ≤ 10 ^ 12) (by omega), Bool.and_false]; rfl
  | false =>
    have h := of_decide_eq_false h
    have : (10 : Int) ^ ((12 : Int).toNat) = 1000000000000 := by decide
    rw [this] at h
    by_cases h0 : n < 0
    · rw [if_pos h0] at h
      rw [decide_eq_true (p := -10 ^ 12 ≤ n) (by omega), decide_eq_true (p := n ≤ 10 ^ 12) (by omega)]; rfl
    · rw [if_neg h0] at h
      rw [decide_eq_true (p := -10 ^ 12 ≤ n) (by omega), decide_eq_true (p := n ≤ 10 ^ 12) (by omega)]; rfl
theorem cin_not3 {ws : List Str} (h : ws.length ≠ 3) : cinO ws = none := by
  match ws, h with
  | [], _ => rfl
  | [_], _ => rfl
  | [_, _], _ => rfl
  | [_, _, _], h => exact absurd rfl h
  | _ :: _ :: _ :: _ :: _, _ => rfl
theorem cut_last (l : List PyData) (x : PyData) : cutD (l ++ [x]) none (some (-1)) = l := by
  unfold cutD
  have e : HT.sIx (l ++ [x]).length (l ++ [x]).length (some (-1)) = l.length := by
    rw [List.length_append, List.length_singleton]
    show (if (-1 : Int) < 0 then ((-1 : Int) + ((l.length + 1 : Nat) : Int)).toNat else min (-1 : Int).toNat (l.length + 1)) = _
    rw [if_pos (by decide)]
    omega
  rw [e, HT.sIx_none, List.drop_zero, Nat.sub_zero, List.take_left' rfl]
section
variable {P : Program} {w : World} {K : PySem.W.Frag} {mg : Str → Option Value} {base : Heap}
abbrev s__law_contents_due : Stmt := top 32
abbrev n__law_contents_due : List Str := ["_law_thing", "_law_lines", "_law_found", "_law_last", "_law_at", "_law_line", "_law_words", "_law_address", "_law_number"]
abbrev p__law_contents_due : List Str := ["_law_thing"]
theorem sc__law_contents_due : FnScope n__law_contents_due p__law_contents_due (defScope s__law_contents_due) := ⟨rfl, rfl, rfl, by decide +kernel, rfl, by decide +kernel, by decide +kernel⟩
theorem ok__law_contents_due {f : Addr} {fd : FuncData} (F : Fun K "_law_contents_due" "_law_contents_due" s__law_contents_due f fd) (T : Txt mg) (c__law_place : Cal P w K mg base CX0 5 "_law_place" p__law_place con__law_place) (c__law_whole : Cal P w K mg base CX0 1 "_law_whole" p__law_whole con__law_whole) : FnOk P w K mg base CX0 (6 + 1) f fd p__law_contents_due (spOf K p__law_contents_due.length con__law_contents_due) := by
  refine fn_ok F sc__law_contents_due fun cdv A outer s H hr => ?_
  have nd := sc__law_contents_due.nd
  refine ⟨_, _, (dss_cons (ds_if (dc_not (dc_val (de_isi (T := "str") (de_var 0) T.b_isinstance T.b_str (by kernel_rfl) (by decide)))) (dss_one (ds_ret (de_tup (da_cons de_str (da_cons de_int da_nil))))) dss_nil) (dss_cons (ds_par3 (i := 1) (j := 2) (l := 3) rfl nd (db_cons (de_split (de_var 0) (da_cons de_str da_nil)) (db_cons de_dnewT (db_cons de_non db_nil))) (by rfl)) (dss_cons (ds_for PassesOwn.never rfl (di_enum (da_cons (de_sl (de_var 1) do_none (do_some (de_neg de_int))) da_nil) T.b_enumerate) (dg_tup rfl (dgs_cons (dg_name (i := 4) nd) (dgs_cons (dg_name (i := 5) nd) dgs_nil))) (dss_cons (ds_set (i := 6) nd (de_split (de_var 5) (da_cons de_str da_nil))) (dss_cons (ds_par2 (i := 7) (j := 8) rfl nd (db_cons (de_fc c__law_place (hr.mono (by decide)) (da_cons (de_sl (de_var 6) do_none (do_some de_int)) (da_cons de_non da_nil))) (db_cons (de_if (dc_cmp (op_eqA hr.units) od_eq (de_callB call_len cd_len (by rfl) T.b_len (by kernel_rfl) (da_cons (de_var 6) da_nil)) de_int (nomark _)) (de_fc c__law_whole (hr.mono (by decide)) (da_cons (de_ix (de_var 6) de_int) da_nil)) de_non) db_nil)) (by rfl)) (dss_cons (ds_if (dc_w (dw_or (dc_cmp op_isN od_is (de_var 7) de_non (nomark _)) (dw_or (dc_cmp op_isN od_is (de_var 8) de_non (nomark _)) (dw_or (dc_cmp op_gt od_gt (de_callB call_abs cd_abs (by rfl) T.b_abs (by kernel_rfl) (da_cons (de_var 8) da_nil)) (de_bin op_pow od_I de_int de_int) (nomark _)) (dw_or1 (dc_w (dw_and (dc_cmp op_notN od_isNot (de_var 3) de_non (nomark _)) (dw_and1 (dc_cmp (op_leA hr.units0) od_le (de_var 7) (de_var 3) (nomark _)))))))))) (dss_one (ds_ret (de_tup (da_cons de_str (da_cons (de_bin op_addA od_add (de_var 4) de_int) da_nil))))) dss_nil) (dss_cons (ds_putT (i := 2) (units1 hr) (de_var 7) (de_var 8)) (dss_one (ds_set (i := 3) nd (de_var 7)))))))) (dss_one (ds_ret (de_if (dc_cmp (op_eqA hr.units) od_eq (de_ix (de_var 1) (de_neg de_int)) de_str (nomark _)) (de_tup (da_cons de_str (da_cons (de_var 2) da_nil))) (de_tup (da_cons de_str (da_cons (de_callB call_len cd_len (by rfl) T.b_len (by kernel_rfl) (da_cons (de_var 1) da_nil)) da_nil))))))))), ?_⟩
  rintro ss q y hl ⟨d, rfl, ⟨hd, hw⟩, hq⟩
  walk_at "drive"
  refine ⟨hd, ?_⟩
  walk_at "drive"
  cases d with
  | str w =>
    obtain ⟨hw, hk⟩ := hw w rfl
    have hlen : (linesI w).length < 16000 := by
      have := PyProof.Rows.split_le w "\n"
      unfold linesI
      rw [List.length_dropLast]
      omega
    have hsl : ∀ x ∈ linesI w, x.length ≤ 100000 ∧ PyData.strOk x = true := fun x hx => by
      have hx : x ∈ Txt.split w "\n" := by rw [split_lines]; exact List.mem_append_left _ hx
      have := PyProof.Rows.part_short hx
      exact ⟨by omega, split_ok hk x hx⟩
    simp only [contR] at hq
    walk_at "drivx"
    refine t_split (z := w) rfl (by omega) ?_
    rw [split_lines, show strsD (linesI w ++ [lastL w]) = strsD (linesI w) ++ [.str (lastL w)] by unfold strsD; rw [List.map_append]; rfl]
    walk_at "drivy"
    refine t_for ?_
    walk_at "drivy"
    rw [cut_last]
    refine ⟨fun i ρ' => ∃ acc el s4 s5 s6 s7 s8, ρ' = [.dat (.str w), .own (strsD (linesI w) ++ [.str (lastL w)]), .ownT acc, .dat (optP el), s4, s5, s6, s7, s8] ∧ acc.length ≤ i ∧ rcL ((linesI w).drop i) i acc el = rcL (linesI w) 0 [] none, ⟨[], none, _, _, _, _, _, rfl, Nat.le_refl _, rfl⟩, fun i d ρ' hd iv => ?_, fun ρ' iv => ?_⟩
    · obtain ⟨acc, el, s4, s5, s6, s7, s8, rfl, ha, hr⟩ := iv
      obtain ⟨e, he, rfl⟩ := numbered_get hd
      obtain ⟨l, hl2, rfl⟩ := strs_get he
      have hi : i < 16000 := Nat.lt_trans (List.getElem?_eq_some_iff.mp hl2).1 hlen
      obtain ⟨hl3, hl4⟩ := hsl l (List.mem_of_getElem? hl2)
      rw [drop_get hl2, rcL] at hr
      walk_at "drivy"
      refine t_split (z := l) rfl (by omega) ?_
      rw [← hr] at hq
      have hs : ∀ x ∈ Txt.split l " ", x.length ≤ 100000 ∧ PyData.strOk x = true := fun x hx => ⟨Nat.le_trans (PyProof.Rows.part_short hx) hl3, split_ok hl4 x hx⟩
      generalize Txt.split l " " = ws at hq hr hs ⊢
      walk_at "drivy"
      rw [cut_two, show (strsD ws).take 2 = strsD (ws.take 2) by unfold strsD; rw [List.map_take]]
      refine ⟨ws.take 2, none, rfl, fun x hx => hs x (List.mem_of_mem_take hx), ?_⟩
      walk_at "drivy"
      refine t_ite (fun h3 => ?_) (fun h3 => ?_)
      · obtain ⟨a, b, c, rfl⟩ : ∃ a b c, ws = [a, b, c] := by
          have h : ws.length = 3 := by
            rw [strs_len] at h3
            have := of_decide_eq_true h3
            omega
          match ws, h with
          | [a, b, c], _ => exact ⟨a, b, c, rfl⟩
        have hc := hs c (by simp)
        walk_at "drivy"
        refine ⟨hc, ?_⟩
        rw [rdI_opt]
        walk_at "drivy"
        rw [cin3] at hq hr
        rw [show List.take 2 [a, b, c] = [a, b] from rfl]
        generalize placeO [a, b] none = o at hq hr ⊢
        generalize rdO c = m at hq hr ⊢
        cases o with
        | none =>
          rw [optP_none]
          walk_at "drivy"
          exact t_lf hq rfl
        | some p =>
          rw [optP_some]
          cases m with
          | none =>
            rw [opt_none]
            walk_at "drivy"
            exact t_lf hq rfl
          | some n =>
            rw [opt_some]
            walk_at "drivy"
            refine t_pow (by unfold CPow; decide) ?_
            generalize hP : (10 : Int) ^ ((12 : Int).toNat) = P12
            walk_at "drivy"
            refine t_ite (fun h4 => ?_) (fun h4 => ?_)
            · have f : farO (some n) = false := far_abs (b := true) (by rw [hP]; exact h4)
              simp only [f, Bool.false_eq_true, if_false] at hq
              walk_at "drivy"
              exact t_lf hq rfl
            have f : farO (some n) = true := far_abs (b := false) (by rw [hP]; exact h4)
            simp only [f, if_true] at hq hr
            cases el with
            | none =>
              rw [optP_none]
              walk_at "drivz"
              refine ⟨show acc.length < 100000 by omega, putD acc (pk p) (.int n), some p, _, _, _, _, _, rfl, Nat.le_trans (putD_len _ _ _) (Nat.succ_le_succ ha), hr⟩
            | some e =>
              rw [optP_some]
              walk_at "drivy"
              refine t_leP ?_
              walk_at "drivy"
              refine t_ite (fun h => ?_) (fun h => ?_)
              · have h : leP p e = true := h
                simp only [h, if_true] at hq
                walk_at "drivy"
                exact t_lf hq rfl
              · have h : leP p e = false := h
                simp only [h, Bool.false_eq_true, if_false] at hr
                walk_at "drivz"
                refine ⟨show acc.length < 100000 by omega, putD acc (pk p) (.int n), some p, _, _, _, _, _, rfl, Nat.le_trans (putD_len _ _ _) (Nat.succ_le_succ ha), hr⟩
      · have h3 : ws.length ≠ 3 := by
          rw [strs_len] at h3
          intro z; rw [z] at h3; cases h3
        rw [cin_not3 h3] at hq
        generalize placeO (ws.take 2) none = o
        cases o with
        | none =>
          rw [optP_none]
          walk_at "drivy"
          exact t_lf hq rfl
        | some p =>
          rw [optP_some]
          walk_at "drivy"
          exact t_lf hq rfl
    · obtain ⟨acc, el, s4, s5, s6, s7, s8, rfl, ha, hr⟩ := iv
      rw [numbered_len, strs_len, List.drop_length, rcL] at hr
      rw [← hr] at hq
      walk_at "drive"
      refine t_ixL _ (atI_last _ _) ?_
      walk_at "drivy"
      cases h : (lastL w == ("" : Str)) with
      | true =>
        simp only [h, if_true] at hq
        walk_at "drivy"
        exact t_lf hq rfl
      | false =>
        simp only [h, Bool.false_eq_true, if_false] at hq
        walk_at "drivy"
        refine t_lf hq ?_
        rw [List.length_append, strs_len]
        rfl
  | _ =>
    walk_at "drivx"
    exact t_lf hq rfl
end
end K92

-- part K92P
set_option Elab.async false
set_option maxRecDepth 100000
set_option maxHeartbeats 400000
namespace K92
open PySem L2 DL TL
/-! ### texts of numbers -/
theorem num_head : ∀ (n : Nat), 0 < n → ∃ c r, numL n = c :: r ∧ 49 ≤ c := by
  intro n
  induction n using Nat.strongRecOn with
  | _ n ih =>
    intro h
    by_cases h9 : n < 10
    · exact ⟨48 + n, [], numL_lt h9, by omega⟩
    · obtain ⟨c, r, e, hc⟩ := ih (n / 10) (by omega) (by omega)
      exact ⟨c, r ++ [48 + n % 10], by rw [numL_step (by omega), e]; rfl, hc⟩
theorem tl_pos (m : Nat) : tl (nT (m : Int)) = numL m := tl_num m
theorem tl_neg {m : Nat} (h : 0 < m) : tl (nT (-(m : Int))) = 45 :: numL m := by
  have e : toString (-(m : Int)) = "-" ++ toString (m : Int) := by
    have := PyProof.Rows.toString_neg (n := -(m : Int)) (by omega)
    rw [this, show (0 : Int) - -(m : Int) = m by omega]
  have e1 : tl (nT (-(m : Int))) = (toString (-(m : Int))).toList.map Char.toNat := tl_ofString _
  have e2 : numL m = (toString (m : Int)).toList.map Char.toNat := by rw [← tl_num, tl_ofString]
  rw [e1, e, e2, String.toList_append, List.map_append]; rfl
theorem int_sgn (n : Int) : (∃ m : Nat, n = (m : Int)) ∨ ∃ m : Nat, 0 < m ∧ n = -(m : Int) := by
  by_cases h : 0 ≤ n
  · exact .inl ⟨n.toNat, by omega⟩
  · exact .inr ⟨(-n).toNat, by omega, by omega⟩
theorem nT_free {n : Int} {s : Nat} (h : s ≠ 45 ∧ (s < 48 ∨ 57 < s)) : s ∉ tl (nT n) := by
  rcases int_sgn n with ⟨m, rfl⟩ | ⟨m, hm, rfl⟩
  · rw [tl_pos]; exact numL_free h.2
  · rw [tl_neg hm]
    intro z
    rcases List.mem_cons.mp z with z | z
    · exact h.1 z
    · exact numL_free h.2 z
theorem num_digs {m : Nat} (h : m < 10 ^ 13) {p : Str} (e : tl p = numL m) : digs p = true := by
  have l := numL_len (k := 13) (by decide) h
  have l1 : 1 ≤ (numL m).length := List.length_pos_iff.mpr (numL_ne m)
  have d := numL_digits m
  unfold digs
  rw [e]
  simp only [Bool.and_eq_true, decide_eq_true_eq, List.all_eq_true]
  exact ⟨⟨l1, by omega⟩, fun c hc => (inDig_iff c).mpr (d c hc)⟩
theorem rd_nT {n : Int} (h : n.natAbs < 10 ^ 13) : rdO (nT n) = some n := by
  rcases int_sgn n with ⟨m, rfl⟩ | ⟨m, hm, rfl⟩
  · have hm : m < 10 ^ 13 := by simpa using h
    have ng : isNeg (nT (m : Int)) = false := by
      cases z : isNeg (nT (m : Int)) with
      | false => rfl
      | true =>
        obtain ⟨r, e⟩ := (isNeg_iff _).mp z
        rw [tl_pos] at e
        have := numL_digits m 45 (by rw [e]; exact List.mem_cons_self)
        omega
    have ld : led (nT (m : Int)) = false := by
      unfold led
      rw [pl_pos ng, tl_pos]
      rcases Nat.eq_zero_or_pos m with h0 | hp
      · subst h0
        have : (nT ((0 : Nat) : Int) == ("0" : Str)) = true := by decide +kernel
        rw [this]; simp
      · obtain ⟨c, r, e, hc⟩ := num_head m hp
        rw [e]
        have : (c :: r).head? = some c := rfl
        rw [this]
        have : (some c == some 48) = false := by
          simp; omega
        rw [this]; rfl
    have i : intText? (nT (m : Int)) = some (m : Int) := int_num (by have := numL_len (k := 13) (by decide) hm; omega)
    unfold rdO
    rw [if_pos ⟨num_digs hm (by rw [pl_pos ng, tl_pos]), ld⟩, i]; rfl
  · have hm2 : m < 10 ^ 13 := by simpa using h
    have t := tl_neg hm
    have ng : isNeg (nT (-(m : Int))) = true := (isNeg_iff _).mpr ⟨_, t⟩
    have tp : tl (pl (nT (-(m : Int)))) = numL m := by
      have := pl_neg ng
      rw [t] at this
      exact (List.cons.inj this).2.symm
    have ld : led (nT (-(m : Int))) = false := by
      unfold led
      rw [tp]
      obtain ⟨c, r, e, hc⟩ := num_head m hm
      rw [e]
      have : (c :: r).head? = some c := rfl
      rw [this]
      have : (some c == some 48) = false := by
        simp; omega
      rw [this]; rfl
    have i : intText? (nT (-(m : Int))) = some (-(m : Int)) := by
      have := intText_neg t (numL_digits m) (numL_ne m) (by
        have l := numL_len (k := 13) (by decide) hm2
        rw [← tl_len, t, List.length_cons]; omega)
      rw [numL_val] at this; exact this
    unfold rdO
    rw [if_pos ⟨num_digs hm2 tp, ld⟩, i]; rfl
theorem nat_nT {n : Int} (h : n.natAbs < 10 ^ 13) (h0 : 0 ≤ n) : natO (nT n) = some n := by
  unfold natO
  rw [rd_nT h]; exact if_pos h0
theorem nT_word {n : Int} {w : Str} {c : Nat} {r : List Nat} (e : tl w = c :: r) (hc : c ≠ 45 ∧ (c < 48 ∨ 57 < c)) : (nT n == w) = false := by
  rw [beq_eq_false_iff_ne]
  intro z
  exact nT_free (n := n) hc (by rw [z, e]; exact List.mem_cons_self)
/-! ### the lines of contents -/
abbrev CL := List ((Int × Int) × Int)
def rowH (y : Int) : Str := if y = -1 then "head" else nT y
def bodyT (x : (Int × Int) × Int) : Str := Str.empty ++ nT x.1.1 ++ (" " : Str) ++ rowH x.1.2 ++ (" " : Str) ++ nT x.2
def lineT (x : (Int × Int) × Int) : Str := bodyT x ++ ("\n" : Str)
theorem tl_app (a b : Str) : tl (a ++ b) = tl a ++ tl b := TL.tl_append a b
theorem row_free {y : Int} {s : Nat} (h : s = 32 ∨ s = 10) : s ∉ tl (rowH y) := by
  unfold rowH
  split
  · rcases h with rfl | rfl <;> decide +kernel
  · exact nT_free (by rcases h with rfl | rfl <;> decide)
theorem body_tl (x : (Int × Int) × Int) : tl (bodyT x) = tl (nT x.1.1) ++ (32 :: tl (rowH x.1.2) ++ (32 :: tl (nT x.2))) := by
  unfold bodyT
  simp only [tl_app]
  rw [show tl Str.empty = [] from rfl, show tl (" " : Str) = [32] by decide +kernel]
  simp
theorem body_split (x : (Int × Int) × Int) : Txt.split (bodyT x) " " = [nT x.1.1, rowH x.1.2, nT x.2] := by
  have e : bodyT x = Txt.join " " [nT x.1.1, rowH x.1.2, nT x.2] := by
    refine tl_inj ?_
    rw [body_tl, join_eq]
    show _ = TL.tl _
    rw [tl_join, show TL.tl (" " : Str) = [32] by decide +kernel]
    simp [joinL]
  rw [e]
  refine TL.split_join (s := 32) (S := []) (by decide +kernel) (by decide +kernel) (by simp) fun p hp => ?_
  simp only [List.mem_cons, List.not_mem_nil, or_false] at hp
  rcases hp with rfl | rfl | rfl
  · exact nT_free (by decide)
  · exact row_free (.inl rfl)
  · exact nT_free (by decide)
theorem body_free (x : (Int × Int) × Int) : 10 ∉ tl (bodyT x) := by
  rw [body_tl]
  intro z
  simp only [List.mem_append, List.mem_cons] at z
  rcases z with z | (z | z) | z | z
  · exact nT_free (by decide) z
  · cases z
  · exact row_free (.inr rfl) z
  · cases z
  · exact nT_free (by decide) z
def contT (l : CL) : Str := Txt.join "" (l.map lineT)
theorem joinL_ends : ∀ (l : List (List Nat)), joinL [10] (l ++ [[]]) = joinL [] (l.map fun x => x ++ [10])
  | [] => rfl
  | [a] => by simp [joinL]
  | a :: b :: r => by
    have := joinL_ends (b :: r)
    simp only [List.cons_append, List.map_cons, joinL, List.nil_append] at this ⊢
    rw [this]; simp
theorem cont_split (l : CL) : Txt.split (contT l) "\n" = l.map bodyT ++ [("" : Str)] := by
  have e : contT l = Txt.join "\n" (l.map bodyT ++ [("" : Str)]) := by
    refine tl_inj ?_
    unfold contT
    rw [join_eq, join_eq]
    show TL.tl _ = TL.tl _
    rw [tl_join, tl_join, show TL.tl ("\n" : Str) = [10] by decide +kernel, show TL.tl ("" : Str) = [] by decide +kernel]
    rw [List.map_append, show List.map TL.tl [("" : Str)] = [[]] by decide +kernel, joinL_ends]
    congr 1
    rw [List.map_map, List.map_map, List.map_map]
    congr 1
    funext x
    show TL.tl (lineT x) = TL.tl (bodyT x) ++ [10]
    unfold lineT
    rw [TL.tl_append, show TL.tl ("\n" : Str) = [10] by decide +kernel]
  rw [e]
  refine TL.split_join (s := 10) (S := []) (by decide +kernel) (by decide +kernel) (by simp) fun p hp => ?_
  rcases List.mem_append.mp hp with hp | hp
  · obtain ⟨x, _, rfl⟩ := List.mem_map.mp hp
    exact body_free x
  · rw [List.mem_singleton.mp hp]; decide +kernel
theorem cont_lines (l : CL) : linesI (contT l) = l.map bodyT := by unfold linesI; rw [cont_split, List.dropLast_concat]
theorem cont_last (l : CL) : lastL (contT l) = "" := by unfold lastL; rw [cont_split, List.getLast?_concat]; rfl
/-- what the numbers of contents keep to -/
def rgC (x : (Int × Int) × Int) : Prop := (0 ≤ x.1.1 ∧ x.1.1 ≤ 1000) ∧ (-1 ≤ x.1.2 ∧ x.1.2 ≤ 1000) ∧ (-10 ^ 12 ≤ x.2 ∧ x.2 ≤ 10 ^ 12)
theorem row_rd {y : Int} (h : -1 ≤ y ∧ y ≤ 1000) : rowO (rowH y) = some y := by
  unfold rowH rowO
  by_cases e : y = -1
  · rw [if_pos e]
    have : (("head" : Str) == ("head" : Str)) = true := by decide +kernel
    rw [if_pos this, e]
  · rw [if_neg e]
    have : (nT y == ("head" : Str)) = false := nT_word (c := 104) (r := [101, 97, 100]) (by decide +kernel) (by decide)
    rw [this, if_neg Bool.false_ne_true]
    exact nat_nT (by omega) (by omega)
theorem body_cin {x : (Int × Int) × Int} (h : rgC x) : cinO (Txt.split (bodyT x) " ") = some (x.1, x.2) := by
  obtain ⟨h1, h2, h3⟩ := h
  rw [body_split]
  have f : farO (some x.2) = true := by
    rw [far_some, Bool.and_eq_true]
    exact ⟨decide_eq_true h3.1, decide_eq_true h3.2⟩
  simp only [cinO, nat_nT (n := x.1.1) (by omega) h1.1, row_rd h2, rd_nT (n := x.2) (by omega), f, if_true]
def kvC (l : CL) : KV := l.map fun x => (pk x.1, .int x.2)
theorem pk_inj {p e : Int × Int} (h : pk p = pk e) : p = e := by
  unfold pk at h
  injection h with h1 h2
  injection h2 with h2 h3
  injection h1 with h1
  injection h2 with h2
  exact Prod.ext h1 h2
theorem put_new {a : KV} {k : List Key} {v : PyData} (h : ∀ x ∈ a, x.1 ≠ k) : putD a k v = a ++ [(k, v)] := by
  unfold putD
  rw [if_neg]
  intro z
  obtain ⟨x, hx, e⟩ := List.any_eq_true.mp z
  exact h x hx (of_decide_eq_true e)
theorem leP_eq (p e : Int × Int) : leP p e = decide (p.1 < e.1 ∨ (p.1 = e.1 ∧ p.2 ≤ e.2)) := by
  show (if decide (p.1 = e.1) = true then (if decide (p.2 = e.2) = true then decide (2 ≤ 2) else decide (p.2 ≤ e.2)) else decide (p.1 ≤ e.1)) = _
  by_cases h1 : p.1 = e.1
  · rw [if_pos (decide_eq_true h1)]
    by_cases h2 : p.2 = e.2
    · rw [if_pos (decide_eq_true h2)]
      exact (decide_eq_true (by omega)).symm
    · rw [if_neg (by simpa using h2)]
      exact decide_eq_decide.mpr (by omega)
  · rw [if_neg (by simpa using h1)]
    exact decide_eq_decide.mpr (by omega)
theorem rcL_sorted : ∀ (l : CL) (i : Nat) (acc : KV) (el : Option (Int × Int)), (∀ x ∈ l, rgC x) → l.Pairwise (fun a b => leP b.1 a.1 = false) → (∀ e, el = some e → ∀ x ∈ l, leP x.1 e = false) → (∀ x ∈ l, ∀ y ∈ acc, y.1 ≠ pk x.1) →
    rcL (l.map bodyT) i acc el = .ok (acc ++ kvC l)
  | [], i, acc, el, _, _, _, _ => by show Except.ok acc = _; unfold kvC; rw [List.map_nil, List.append_nil]
  | x :: l, i, acc, el, h1, h2, h3, h4 => by
    obtain ⟨h5, h6⟩ := List.pairwise_cons.mp h2
    rw [List.map_cons, rcL, body_cin (h1 x List.mem_cons_self)]
    refine Eq.trans (if_neg ?_) ?_
    · cases el with
      | none => exact Bool.false_ne_true
      | some e =>
        show ¬ (leP x.1 e = true)
        rw [h3 e rfl x List.mem_cons_self]; exact Bool.false_ne_true
    rw [put_new (h4 x List.mem_cons_self)]
    rw [rcL_sorted l (i + 1) _ (some x.1) (fun y hy => h1 y (List.mem_cons_of_mem _ hy)) h6 (fun e he y hy => by cases he; exact h5 y hy) fun y hy z hz => ?_]
    · unfold kvC; rw [List.map_cons, List.append_assoc]; rfl
    · rcases List.mem_append.mp hz with hz | hz
      · exact h4 y (List.mem_cons_of_mem _ hy) z hz
      · rw [List.mem_singleton.mp hz]
        intro e
        have e : x.1 = y.1 := pk_inj e
        have := h5 y hy
        rw [← e, leP_eq] at this
        have := of_decide_eq_false this
        omega
theorem cont_read {l : CL} (h1 : ∀ x ∈ l, rgC x) (h2 : l.Pairwise (fun a b => leP b.1 a.1 = false)) : contR (.str (contT l)) = .ok (kvC l) := by
  have e : rcL (linesI (contT l)) 0 [] none = .ok (kvC l) := by
    rw [cont_lines, rcL_sorted l 0 [] none h1 h2 (fun e he => by cases he) (fun x _ y hy => by cases hy)]
    rfl
  have b : (("" : Str) == ("" : Str)) = true := by decide +kernel
  simp only [contR, e, cont_last, b, if_true]
/-! ### sorting -/
def leC (a b : (Int × Int) × Int) : Bool := leP a.1 b.1
def sortC (l : CL) : CL := l.mergeSort leC
theorem leP_trans {a b c : Int × Int} (h1 : leP a b = true) (h2 : leP b c = true) : leP a c = true := by
  rw [leP_eq] at *
  have h1 := of_decide_eq_true h1
  have h2 := of_decide_eq_true h2
  exact decide_eq_true (by omega)
theorem leP_total (a b : Int × Int) : (leP a b || leP b a) = true := by
  rw [leP_eq, leP_eq, Bool.or_eq_true]
  simp only [decide_eq_true_eq]
  omega
theorem leP_anti {a b : Int × Int} (h1 : leP a b = true) (h2 : leP b a = true) : a = b := by
  rw [leP_eq] at *
  have h1 := of_decide_eq_true h1
  have h2 := of_decide_eq_true h2
  exact Prod.ext (by omega) (by omega)
structure CLok (l : CL) : Prop where
  nd : (l.map (·.1)).Nodup
  len : l.length ≤ 6
  rg : ∀ x ∈ l, rgC x
theorem CLok.perm {l m : CL} (h : CLok l) (p : m.Perm l) : CLok m := ⟨(p.map (·.1)).nodup_iff.mpr h.nd, by rw [p.length_eq]; exact h.len, fun x hx => h.rg x (p.mem_iff.mp hx)⟩
theorem CLok.inj {l : CL} (h : CLok l) {a b : (Int × Int) × Int} (ha : a ∈ l) (hb : b ∈ l) (e : a.1 = b.1) : a = b := by
  have := h.nd
  clear h
  induction l with
  | nil => cases ha
  | cons x l ih =>
    rw [List.map_cons, List.nodup_cons] at this
    obtain ⟨t1, t2⟩ := this
    rcases List.mem_cons.mp ha with ea | ha' <;> rcases List.mem_cons.mp hb with eb | hb'
    · rw [ea, eb]
    · exact absurd (List.mem_map.mpr ⟨b, hb', by rw [← e, ea]⟩) t1
    · exact absurd (List.mem_map.mpr ⟨a, ha', by rw [e, eb]⟩) t1
    · exact ih ha' hb' t2
theorem sortC_perm (l : CL) : (sortC l).Perm l := List.mergeSort_perm l _
theorem CLok.sort {l : CL} (h : CLok l) : CLok (sortC l) := h.perm (sortC_perm l)
theorem sortC_pw {l : CL} (h : CLok l) : (sortC l).Pairwise (fun a b => leP b.1 a.1 = false) := by
  have p : (sortC l).Pairwise (fun a b => leC a b = true) := List.pairwise_mergeSort (le := leC) (fun _ _ _ h1 h2 => leP_trans h1 h2) (fun a b => leP_total a.1 b.1) l
  have n : (sortC l).Pairwise (fun a b => a.1 ≠ b.1) := List.pairwise_map.mp h.sort.nd
  refine List.Pairwise.imp (fun {a b} (h : leC a b = true ∧ a.1 ≠ b.1) => ?_) (p.and n)
  obtain ⟨h1, h2⟩ := h
  cases z : leP b.1 a.1 with
  | false => rfl
  | true => exact absurd (leP_anti h1 z) h2
theorem cont_back {l : CL} (h : CLok l) : contR (.str (contT (sortC l))) = .ok (kvC (sortC l)) := cont_read h.sort.rg (sortC_pw h)
/-- two tuples of ints as keys of a sorting -/
theorem toks2 (a b : Int) (r : List (Int ⊕ List Nat)) : PySem.W.keyToks (.tuple [.int a, .int b]) = [.inl 1, .inl a, .inl 1, .inl b, .inl 0] := rfl
theorem le_pair (p e : Int × Int) : PySem.W.dataLe false id (pairD p) (pairD e) = leP p e := by
  show (!PyProof.Rows.lexLt PyProof.Rows.itemOrd [.inl 1, .inl e.1, .inl 1, .inl e.2, .inl 0] [.inl 1, .inl p.1, .inl 1, .inl p.2, .inl 0]) = _
  rw [leP_eq]
  simp only [PyProof.Rows.lexLt, PyProof.Rows.itemOrd, PyProof.Rows.itemLt]
  by_cases h1 : e.1 < p.1 <;> by_cases h2 : p.1 < e.1 <;> by_cases h3 : e.2 < p.2 <;> by_cases h4 : p.2 < e.2 <;> simp [h1, h2, h3, h4] <;> omega
theorem le_item {a b : (Int × Int) × Int} (h : a.1 = b.1 → a = b) : PySem.W.dataLe false id (itemOf (pk a.1, .int a.2)) (itemOf (pk b.1, .int b.2)) = leC a b := by
  show (!PyProof.Rows.lexLt PyProof.Rows.itemOrd [.inl 1, .inl 1, .inl b.1.1, .inl 1, .inl b.1.2, .inl 0, .inl 1, .inl b.2, .inl 0] [.inl 1, .inl 1, .inl a.1.1, .inl 1, .inl a.1.2, .inl 0, .inl 1, .inl a.2, .inl 0]) = leP a.1 b.1
  rw [leP_eq]
  simp only [PyProof.Rows.lexLt, PyProof.Rows.itemOrd, PyProof.Rows.itemLt]
  by_cases e : a.1 = b.1
  · have := h e
    subst this
    simp
  · have : a.1.1 ≠ b.1.1 ∨ a.1.2 ≠ b.1.2 := by
      by_cases z : a.1.1 = b.1.1
      · exact .inr fun z2 => e (Prod.ext z z2)
      · exact .inl z
    by_cases h1 : b.1.1 < a.1.1 <;> by_cases h2 : a.1.1 < b.1.1 <;> by_cases h3 : b.1.2 < a.1.2 <;> by_cases h4 : a.1.2 < b.1.2 <;> simp [h1, h2, h3, h4] <;> omega
theorem sorted_keys (l : CL) : sortedD (keysOf (kvC l)) = (sortC l).map fun x => pairD x.1 := by
  unfold sortedD sortC
  rw [List.map_mergeSort (s := PySem.W.dataLe false id) (fun a _ b _ => (le_pair a.1 b.1).symm)]
  unfold keysOf kvC
  rw [List.map_map]; rfl
theorem sorted_items {l : CL} (h : CLok l) : sortedD (itemsOf (kvC l)) = itemsOf (kvC (sortC l)) := by
  unfold sortedD sortC itemsOf kvC
  rw [List.map_map, List.map_map]
  exact (List.map_mergeSort (f := itemOf ∘ fun x : (Int × Int) × Int => (pk x.1, PyData.int x.2)) (s := PySem.W.dataLe false id) (fun a ha b hb => (le_item (h.inj ha hb)).symm)).symm
end K92

-- part K92Q
set_option Elab.async false
set_option maxRecDepth 100000
set_option maxHeartbeats 400000
namespace K92
open PySem L2 DL
abbrev con_show_contents : Con := fun ss q _ => ∃ l : CL, ss = [.dat (dT (kvC l))] ∧ CLok l ∧ q (.dat (.str (contT (sortC l))))
theorem t_sortK {t : KV} {q : DL.Slot → Prop} (so : sortOk (keysOf t)) (h : q (.own (sortedD (keysOf t)))) : oSortK [dT t] q := by
  show withKT (kvsT _) _
  rw [kvsT_dT]; exact ⟨so, h⟩
theorem keysOf_kvC (l : CL) : keysOf (kvC l) = l.map fun x => pairD x.1 := by unfold keysOf kvC; rw [List.map_map]; rfl
theorem itemsOf_kvC (l : CL) : itemsOf (kvC l) = l.map fun x => .tuple [pairD x.1, .int x.2] := by unfold itemsOf kvC; rw [List.map_map]; rfl
theorem sortOk_keys {l : CL} (h : l.length ≤ 6) : sortOk (keysOf (kvC l)) := by
  rw [keysOf_kvC]
  refine ⟨fun d hd e he => ?_, .inl fun d hd => ?_, ?_, ?_, by rw [List.length_map]; omega⟩
  · obtain ⟨x, _, rfl⟩ := List.mem_map.mp hd
    obtain ⟨y, _, rfl⟩ := List.mem_map.mp he
    rfl
  · obtain ⟨x, _, rfl⟩ := List.mem_map.mp hd
    exact ⟨_, _, rfl⟩
  · clear h
    induction l with
    | nil => rfl
    | cons a l ih => rw [List.map_cons, okEs, ih]; rfl
  · clear h
    induction l with
    | nil => exact Nat.zero_le _
    | cons a l ih =>
      rw [List.map_cons, PyData.depthAll]
      exact Nat.max_le.mpr ⟨by have : (pairD a.1).depth = 1 := rfl; omega, ih⟩
theorem sortOk_items {l : CL} (h : l.length ≤ 6) : sortOk (itemsOf (kvC l)) := by
  rw [itemsOf_kvC]
  refine ⟨fun d hd e he => ?_, .inl fun d hd => ?_, ?_, ?_, by rw [List.length_map]; omega⟩
  · obtain ⟨x, _, rfl⟩ := List.mem_map.mp hd
    obtain ⟨y, _, rfl⟩ := List.mem_map.mp he
    rfl
  · obtain ⟨x, _, rfl⟩ := List.mem_map.mp hd
    exact ⟨_, _, rfl⟩
  · clear h
    induction l with
    | nil => rfl
    | cons a l ih => rw [List.map_cons, okEs, ih]; rfl
  · clear h
    induction l with
    | nil => exact Nat.zero_le _
    | cons a l ih =>
      rw [List.map_cons, PyData.depthAll]
      exact Nat.max_le.mpr ⟨by have : (PyData.tuple [pairD a.1, .int a.2]).depth = 2 := rfl; omega, ih⟩
theorem t_join {z : Str} {ys : List Str} {q : DL.Slot → Prop} (l : (ys.map (·.length)).sum + ys.length * z.length ≤ 1000000) (h : q (.dat (.str (Txt.join z ys)))) : oJoin (.str z) [.list (strsD ys)] q := by
  show withS (texts (strsD ys)) _
  rw [texts_strsD]; exact ⟨l, h⟩
theorem get_kvC {l : CL} (h : (l.map (·.1)).Nodup) {x : (Int × Int) × Int} (hx : x ∈ l) : DL.getD (kvC l) (pk x.1) = some (.int x.2) := by
  unfold DL.getD kvC
  induction l with
  | nil => cases hx
  | cons a l ih =>
    rw [List.map_cons, List.nodup_cons] at h
    obtain ⟨h1, h2⟩ := h
    rw [List.map_cons, List.find?_cons]
    by_cases e : a.1 = x.1
    · rw [show decide (pk a.1 = pk x.1) = true from decide_eq_true (by rw [e])]
      rcases List.mem_cons.mp hx with rfl | hx
      · rfl
      · exact absurd (List.mem_map.mpr ⟨x, hx, e.symm⟩) h1
    · rw [show decide (pk a.1 = pk x.1) = false from decide_eq_false fun z => e (pk_inj z)]
      rcases List.mem_cons.mp hx with rfl | hx
      · exact absurd rfl e
      · exact ih h2 hx
theorem row_len {y : Int} (h : -1 ≤ y ∧ y ≤ 1000) : (rowH y).length ≤ 14 := by
  unfold rowH
  split
  · decide +kernel
  · exact nT_le (by omega)
theorem line_len {x : (Int × Int) × Int} (h : rgC x) : (lineT x).length ≤ 50 := by
  obtain ⟨h1, h2, h3⟩ := h
  have l1 := nT_le (n := x.1.1) (by omega)
  have l2 := nT_le (n := x.2) (by omega)
  have l3 : (rowH x.1.2).length ≤ 14 := by
    unfold rowH
    split
    · decide +kernel
    · exact nT_le (by omega)
  unfold lineT bodyT
  simp only [cat_len]
  have a1 : (" " : Str).length = 1 := by decide +kernel
  have a2 : ("\n" : Str).length = 1 := by decide +kernel
  have a3 : Str.empty.length = 0 := by decide +kernel
  omega
theorem sum_le {n : Nat} : ∀ {l : List Nat}, (∀ x ∈ l, x ≤ n) → l.sum ≤ l.length * n
  | [], _ => by simp
  | a :: l, h => by
    have h1 := h a List.mem_cons_self
    have h2 := sum_le (l := l) fun x hx => h x (List.mem_cons_of_mem _ hx)
    rw [List.sum_cons, List.length_cons, Nat.add_mul]
    omega
section
variable {ρ : List DL.Slot} {Q : DL.Slot → List DL.Slot → Prop}
theorem e_rowH {i : Nat} {y : Int} (h : ρ[i]? = some (.dat (.int y))) (hy : y.natAbs < 10 ^ 13) (k : Q (.dat (.str (rowH y))) ρ) : dIf (dTest (dBin oEq (dVar i) (dNeg (dC (.int 1))))) (dC (.str "head")) (dCall oStr (dCons (dVar i) dNil)) ρ Q := by
  refine t_if (t_test (t_bin (t_var _ h rfl (t_neg (t_c ⟨1, rfl, ?_⟩)))))
  refine t_withD _ rfl (t_withD _ rfl (t_eqI (t_withBool _ rfl ?_)))
  unfold rowH at k
  refine t_ite (fun e => ?_) (fun e => ?_)
  · have e : y = -1 := of_decide_eq_true e
    rw [if_pos e] at k
    exact t_c k
  · have e : y ≠ -1 := of_decide_eq_false e
    rw [if_neg e] at k
    exact t_call (t_cons (t_var _ h rfl (t_nil (t_withL _ rfl (t_str (log2_small (by omega)) k)))))
end
section
variable {P : Program} {w : World} {K : PySem.W.Frag} {mg : Str → Option Value} {base : Heap}
abbrev s_show_contents : Stmt := top 20
abbrev n_show_contents : List Str := ["contents", "lines", "column", "row", "place"]
abbrev p_show_contents : List Str := ["contents"]
theorem sc_show_contents : FnScope n_show_contents p_show_contents (defScope s_show_contents) := ⟨rfl, rfl, rfl, by decide +kernel, rfl, by decide +kernel, by decide +kernel⟩
theorem ok_show_contents {f : Addr} {fd : FuncData} (F : Fun K "show_contents" "show_contents" s_show_contents f fd) (T : Txt mg)  : FnOk P w K mg base CX0 (3 + 1) f fd p_show_contents (spOf K p_show_contents.length con_show_contents) := by
  refine fn_ok F sc_show_contents fun cdv A outer s H hr => ?_
  have nd := sc_show_contents.nd
  refine ⟨_, _, (dss_cons (ds_set (i := 1) nd (de_lst da_nil)) (dss_cons (ds_for PassesOwn.never rfl (di_seq (de_callB (cr_sortK rfl hr.units) cd_sortK (by rfl) T.b_sorted (by kernel_rfl) (da_cons (de_var 0) da_nil))) (dg_tup rfl (dgs_cons (dg_name (i := 2) nd) (dgs_cons (dg_name (i := 3) nd) dgs_nil))) (dss_cons (ds_set (i := 4) nd (de_if (dc_cmp (op_eqA hr.units) od_eq (de_var 3) (de_neg de_int) (nomark _)) de_str (de_callTy call_str_int cd_str (by rfl) T.b_str (by kernel_rfl) (da_cons (de_var 3) da_nil)))) (dss_one (ds_app (i := 1) (de_joined (dj_cons (de_fmt (de_var 2)) (dj_cons de_str (dj_cons (de_fmt (de_var 4)) (dj_cons de_str (dj_cons (de_fmt (de_getT (units1 hr) (de_var 0) (de_tup (da_cons (de_var 2) (da_cons (de_var 3) da_nil))))) (dj_cons de_str dj_nil))))))))))) (dss_one (ds_ret (de_join de_str (da_cons (de_var 1) da_nil)))))), ?_⟩
  rintro ss q y hl ⟨l, rfl, hc, hq⟩
  have hs := hc.sort
  walk_at "drive"
  refine t_for ?_
  refine t_dseq ?_
  walk_at "drive"
  refine t_sortK (sortOk_keys hc.len) ?_
  rw [sorted_keys]
  walk_at "drive"
  refine ⟨fun i ρ' => ∃ s2 s3 s4, ρ' = [.dat (dT (kvC l)), .own (strsD (((sortC l).take i).map lineT)), s2, s3, s4], ⟨_, _, _, rfl⟩, fun i d ρ' hd iv => ?_, fun ρ' iv => ?_⟩
  · obtain ⟨s2, s3, s4, rfl⟩ := iv
    rw [List.getElem?_map] at hd
    obtain ⟨x, hx, rfl⟩ := Option.map_eq_some_iff.mp hd
    have hi : i < (sortC l).length := (List.getElem?_eq_some_iff.mp hx).1
    have hm := List.mem_of_getElem? hx
    have hr := hs.rg x hm
    have hg := get_kvC hc.nd ((sortC_perm l).mem_iff.mp hm)
    have ll := line_len hr
    have hlen := hs.len
    obtain ⟨⟨c, r⟩, n⟩ := x
    obtain ⟨h1, h2, h3⟩ := id hr
    simp only at h1 h2 h3
    refine t_htup ⟨_, rfl, rfl, t_hcons (t_name (t_hcons (t_name (t_hnil ?_))))⟩
    refine t_seq (t_set (e_rowH (y := r) rfl (by omega) ?_))
    have l1 := nT_le (n := c) (by omega)
    have l2 := nT_le (n := n) (by omega)
    have l3 := row_len (y := r) h2
    have a1 : (" " : Str).length = 1 := by decide +kernel
    have a2 : ("\n" : Str).length = 1 := by decide +kernel
    have a3 : Str.empty.length = 0 := by decide +kernel
    walk_at "drivz"
    refine t_fmtI (n := c) rfl (by omega) ?_
    have ec : (Str.ofString (toString c)) = nT c := rfl
    rw [ec]
    refine ⟨_, rfl, by omega, ?_⟩
    walk_at "drivz"
    refine ⟨by simp only [cat_len]; omega, ?_⟩
    walk_at "drivz"
    refine t_fmtS (z := rowH r) rfl (by omega) ?_
    refine ⟨_, rfl, by simp only [cat_len]; omega, ?_⟩
    walk_at "drivz"
    refine ⟨by simp only [cat_len]; omega, ?_⟩
    walk_at "drivz"
    refine ⟨_, _, kvC l, pk (c, r), .int n, rfl, rfl, kvsT_dT _, rfl, hg, ?_⟩
    refine t_fmtI (n := n) rfl (by omega) ?_
    have en : (Str.ofString (toString n)) = nT n := rfl
    rw [en]
    refine ⟨_, rfl, by simp only [cat_len]; omega, ?_⟩
    walk_at "drivz"
    refine ⟨by simp only [cat_len]; omega, ?_⟩
    walk_at "drivz"
    have hll : (strsD (((sortC l).take i).map lineT)).length < 100000 := by
      rw [strs_len, List.length_map, List.length_take]; omega
    have e2 : strsD (((sortC l).take (i + 1)).map lineT) = strsD (((sortC l).take i).map lineT) ++ [.str (lineT ((c, r), n))] := by
      rw [List.take_add_one, hx, List.map_append]
      unfold strsD
      rw [List.map_append]
      rfl
    refine ⟨hll, .dat (.int c), .dat (.int r), .dat (.str (rowH r)), ?_⟩
    rw [e2]
    rfl
  · obtain ⟨s2, s3, s4, rfl⟩ := iv
    rw [List.length_map, List.take_length]
    walk_at "drivz"
    refine t_join ?_ hq
    have : (((sortC l).map lineT).map (·.length)).sum ≤ (((sortC l).map lineT).map (·.length)).length * 50 := sum_le fun x hx => by
      obtain ⟨z, hz, rfl⟩ := List.mem_map.mp hx
      obtain ⟨u, hu, rfl⟩ := List.mem_map.mp hz
      exact line_len (hs.rg u hu)
    have h6 := hs.len
    have e0 : ("" : Str).length = 0 := by decide +kernel
    simp only [List.length_map] at this ⊢
    rw [e0]
    omega
end
end K92

-- part K92R
set_option Elab.async false
set_option maxRecDepth 100000
set_option maxHeartbeats 400000
namespace K92
open PySem L2 DL
abbrev p__law_take : List Str := ["_law_bag_here", "_law_many"]
abbrev con__law_alike : Con := fun ss q _ => ∃ d : PyData, ss = [.dat d, .dat d] ∧ reprOk d ∧ q (.dat (.bool true))
abbrev con__law_mixed : Con := fun ss q _ => ∃ ds : List PyData, ss = [.bag, .dat (.list ds)] ∧ ds.length ≤ 1000 ∧ ∀ es : List PyData, es.Perm ds → q (.own es)
abbrev con__law_one : Con := fun ss q _ => ∃ ds : List PyData, ss = [.bag, .dat (.list ds)] ∧ (0 < ds.length ∧ ds.length ≤ 1000) ∧ ∀ d ∈ ds, q (.dat d)
theorem ins_perm (ds : List PyData) (n : Nat) (y : PyData) : (insD ds n y).Perm (y :: ds) := by
  unfold insD
  have h : (ds.take n ++ y :: ds.drop n).Perm (y :: (ds.take n ++ ds.drop n)) := List.perm_middle
  rw [List.take_append_drop] at h
  rw [List.append_assoc]
  exact h
theorem take_succ_get {α : Type} {l : List α} {i : Nat} {x : α} (h : l[i]? = some x) : l.take (i + 1) = l.take i ++ [x] := by
  rw [List.take_add_one, h]; rfl
section
variable {P : Program} {w : World} {K : PySem.W.Frag} {mg : Str → Option Value} {base : Heap}
abbrev s__law_alike : Stmt := top 25
abbrev n__law_alike : List Str := ["_law_found", "_law_due"]
abbrev p__law_alike : List Str := ["_law_found", "_law_due"]
theorem sc__law_alike : FnScope n__law_alike p__law_alike (defScope s__law_alike) := ⟨rfl, rfl, rfl, by decide +kernel, rfl, by decide +kernel, by decide +kernel⟩
theorem ok__law_alike {f : Addr} {fd : FuncData} (F : Fun K "_law_alike" "_law_alike" s__law_alike f fd) (T : Txt mg)  : FnG P w K mg base (3 + 1) f fd p__law_alike (spOf K p__law_alike.length con__law_alike) := by
  refine fn_okG F sc__law_alike fun cdv A outer s H gu hr => ?_
  have nd := sc__law_alike.nd
  refine ⟨_, _, (dss_one (ds_ret (de_and (de_cmp (op_same hr.units) od_same (de_var 0) (de_var 1) (nomark _)) (de_one (de_cmp (op_eqA hr.units) od_eq (de_callB (cr_repr gu hr.units) cd_repr (by rfl) T.b_repr (by kernel_rfl) (da_cons (de_var 0) da_nil)) (de_callB (cr_repr gu hr.units) cd_repr (by rfl) T.b_repr (by kernel_rfl) (da_cons (de_var 1) da_nil)) (nomark _)))))), ?_⟩
  rintro ss q y hl ⟨d, rfl, hr, hq⟩
  walk_at "drive"
  refine ⟨rfl, ⟨hr.1, hr.2.1, hr.2.2.1⟩, ?_⟩
  walk_at "drive"
  refine ⟨hr, ?_⟩
  walk_at "drive"
  refine ⟨hr, ?_⟩
  walk_at "drive"
  exact t_lf hq (by rw [beq_self_eq_true])
abbrev s__law_mixed : Stmt := top 26
abbrev n__law_mixed : List Str := ["_law_bag_here", "_law_things", "_law_found", "_law_thing"]
abbrev p__law_mixed : List Str := ["_law_bag_here", "_law_things"]
theorem sc__law_mixed : FnScope n__law_mixed p__law_mixed (defScope s__law_mixed) := ⟨rfl, rfl, rfl, by decide +kernel, rfl, by decide +kernel, by decide +kernel⟩
theorem ok__law_mixed {f : Addr} {fd : FuncData} (F : Fun K "_law_mixed" "_law_mixed" s__law_mixed f fd) (T : Txt mg) (c__law_take : Cal P w K mg base CX0 4 "_law_take" p__law_take conTake) : FnOk P w K mg base CX0 (4 + 1) f fd p__law_mixed (spOf K p__law_mixed.length con__law_mixed) := by
  refine fn_ok F sc__law_mixed fun cdv A outer s H hr => ?_
  have nd := sc__law_mixed.nd
  refine ⟨_, _, (dss_cons (ds_set (i := 2) nd (de_lst da_nil)) (dss_cons (ds_for PassesOwn.never rfl (di_seq (de_var 1)) (dg_name (i := 3) nd) (dss_one (ds_ins (i := 2) (de_fc c__law_take (hr.mono (by decide)) (da_cons (de_var 0) (da_cons (de_bin op_addA od_add (de_callB call_len cd_len (by rfl) T.b_len (by kernel_rfl) (da_cons (de_var 2) da_nil)) de_int) da_nil))) (de_var 3)))) (dss_one (ds_ret (de_var 2))))), ?_⟩
  rintro ss q y hl ⟨ds, rfl, hz, hq⟩
  walk_at "drive"
  refine t_for ?_
  refine t_dseq ?_
  walk_at "drive"
  refine ⟨fun i ρ' => ∃ acc s3, ρ' = [.bag, .dat (.list ds), .own acc, s3] ∧ acc.Perm (ds.take i), ⟨_, _, rfl, by rw [List.take_zero]⟩, fun i d ρ' hd iv => ?_, fun ρ' iv => ?_⟩
  · obtain ⟨acc, s3, rfl, hp⟩ := iv
    have hi : i < ds.length := (List.getElem?_eq_some_iff.mp hd).1
    have hl : acc.length ≤ i := by rw [hp.length_eq, List.length_take]; omega
    walk_at "drivz"
    refine ⟨_, rfl, ⟨by omega, by omega⟩, fun k hk1 hk2 => ?_⟩
    walk_at "drivz"
    trace_state
    refine ⟨⟨by omega, by omega, by omega⟩, _, _, rfl, ?_⟩
    rw [take_succ_get hd]
    refine (ins_perm _ _ _).trans (((List.perm_cons _).mpr hp).trans ?_)
    exact (List.perm_append_singleton _ _).symm
  · obtain ⟨acc, s3, rfl, hp⟩ := iv
    rw [List.take_length] at hp
    walk_at "drivz"
    exact hq _ hp
abbrev s__law_one : Stmt := top 27
abbrev n__law_one : List Str := ["_law_bag_here", "_law_things"]
abbrev p__law_one : List Str := ["_law_bag_here", "_law_things"]
theorem sc__law_one : FnScope n__law_one p__law_one (defScope s__law_one) := ⟨rfl, rfl, rfl, by decide +kernel, rfl, by decide +kernel, by decide +kernel⟩
theorem ok__law_one {f : Addr} {fd : FuncData} (F : Fun K "_law_one" "_law_one" s__law_one f fd) (T : Txt mg) (c__law_take : Cal P w K mg base CX0 4 "_law_take" p__law_take conTake) : FnOk P w K mg base CX0 (4 + 1) f fd p__law_one (spOf K p__law_one.length con__law_one) := by
  refine fn_ok F sc__law_one fun cdv A outer s H hr => ?_
  have nd := sc__law_one.nd
  refine ⟨_, _, (dss_one (ds_ret (de_ix (de_var 1) (de_fc c__law_take (hr.mono (by decide)) (da_cons (de_var 0) (da_cons (de_callB call_len cd_len (by rfl) T.b_len (by kernel_rfl) (da_cons (de_var 1) da_nil)) da_nil)))))), ?_⟩
  rintro ss q y hl ⟨ds, rfl, ⟨h0, hz⟩, hq⟩
  walk_at "drive"
  refine ⟨rfl, _, rfl, ⟨by omega, by omega⟩, fun k hk1 hk2 => ?_⟩
  walk_at "drive"
  obtain ⟨j, rfl⟩ := Int.eq_ofNat_of_zero_le hk1
  have hj : j < ds.length := by omega
  refine t_ixL (ds[j]) ?_ ?_
  · exact atI_nat (List.getElem?_eq_getElem hj)
  · exact hq _ (List.getElem_mem hj)
end
end K92

-- part K92S
set_option Elab.async false
set_option maxRecDepth 100000
set_option maxHeartbeats 400000
namespace K92
open PySem L2 DL TL
theorem cut_sub (w : Str) (lo hi : Option Int) : (tl (cutS w lo hi)).Sublist (tl w) := by
  rw [cut_tl]
  exact (List.take_sublist _ _).trans (List.drop_sublist _ _)
theorem cut_len (w : Str) (lo hi : Option Int) : (cutS w lo hi).length ≤ w.length := by
  rw [← tl_len, ← tl_len]; exact (cut_sub w lo hi).length_le
theorem cut_ok {w : Str} (h : PyData.strOk w = true) (lo hi : Option Int) : PyData.strOk (cutS w lo hi) = true := by
  rw [strOk_iff] at h
  rw [strOk_iff]
  exact fun c hc => h c ((cut_sub w lo hi).subset hc)
def cutL (l : List Str) (lo hi : Option Int) : List Str := (l.drop (HT.sIx l.length 0 lo)).take (HT.sIx l.length l.length hi - HT.sIx l.length 0 lo)
theorem cutD_strs (l : List Str) (lo hi : Option Int) : cutD (strsD l) lo hi = strsD (cutL l lo hi) := by
  unfold cutD cutL
  rw [strs_len]
  unfold strsD
  rw [List.map_take, List.map_drop]
theorem strs_app (a b : List Str) : strsD a ++ strsD b = strsD (a ++ b) := by unfold strsD; rw [List.map_append]
theorem cutL_sub (l : List Str) (lo hi : Option Int) : (cutL l lo hi).Sublist l := (List.take_sublist _ _).trans (List.drop_sublist _ _)
def sumL (l : List Str) : Nat := (l.map (·.length)).sum
theorem sumL_app (a b : List Str) : sumL (a ++ b) = sumL a + sumL b := by unfold sumL; rw [List.map_append, List.sum_append]
theorem sumL_sub {a b : List Str} (h : a.Sublist b) : sumL a ≤ sumL b := by
  induction h with
  | slnil => exact Nat.le_refl _
  | cons x _ ih => unfold sumL at *; rw [List.map_cons, List.sum_cons]; omega
  | cons_cons x _ ih => unfold sumL at *; rw [List.map_cons, List.sum_cons, List.map_cons, List.sum_cons]; omega
theorem joinL_len (S : List Nat) : ∀ (l : List (List Nat)), l ≠ [] → (joinL S l).length + S.length = (l.map (·.length)).sum + l.length * S.length
  | [], h => absurd rfl h
  | [a], _ => by simp [joinL]
  | a :: b :: r, _ => by
    have := joinL_len S (b :: r) (by simp)
    simp only [joinL, List.length_append, List.map_cons, List.sum_cons, List.length_cons, Nat.add_mul] at this ⊢
    omega
theorem join_tl (y : Str) (l : List Str) : tl (Txt.join y l) = joinL (tl y) (l.map tl) := by
  rw [join_eq]; exact tl_join y l
theorem lens_tl (l : List Str) : ((l.map tl).map (·.length)).sum = sumL l := by
  unfold sumL
  rw [List.map_map]; congr 1
theorem nl_tl : tl ("\n" : Str) = [10] := by decide +kernel
theorem join_len (l : List Str) : (Txt.join "\n" l).length ≤ sumL l + l.length := by
  cases l with
  | nil => rw [← tl_len, join_tl]; exact Nat.zero_le _
  | cons a l =>
    have := joinL_len [10] ((a :: l).map tl) (by simp)
    rw [lens_tl] at this
    rw [← tl_len, join_tl, nl_tl]
    simp only [List.length_map, List.length_singleton, Nat.mul_one] at this
    omega
theorem split_sum (w : Str) : sumL (Txt.split w "\n") + (Txt.split w "\n").length = w.length + 1 := by
  have e := StrLaws.join_split w "\n"
  have hp := PyProof.Rows.split_pos w "\n"
  generalize Txt.split w "\n" = l at e hp ⊢
  have hn : l.map tl ≠ [] := by
    intro z
    rw [List.map_eq_nil_iff] at z
    rw [z] at hp; cases hp
  have := joinL_len [10] (l.map tl) hn
  rw [lens_tl] at this
  rw [← join_eq] at e
  rw [← e, ← tl_len, join_tl, nl_tl]
  simp only [List.length_map, List.length_singleton, Nat.mul_one] at this
  omega
theorem joinL_ok {S : List Nat} (hS : ∀ c ∈ S, c < 0x110000) : ∀ {l : List (List Nat)}, (∀ x ∈ l, ∀ c ∈ x, c < 0x110000) → ∀ c ∈ joinL S l, c < 0x110000
  | [], _, c, hc => by cases hc
  | [a], h, c, hc => h a List.mem_cons_self c hc
  | a :: b :: r, h, c, hc => by
    simp only [joinL, List.mem_append] at hc
    rcases hc with hc | hc | hc
    · exact h a List.mem_cons_self c hc
    · exact hS c hc
    · exact joinL_ok hS (fun x hx => h x (List.mem_cons_of_mem _ hx)) c hc
theorem join_ok {l : List Str} (h : ∀ x ∈ l, PyData.strOk x = true) : PyData.strOk (Txt.join "\n" l) = true := by
  rw [strOk_iff, join_tl]
  refine joinL_ok (by rw [nl_tl]; decide) fun x hx => ?_
  obtain ⟨y, hy, rfl⟩ := List.mem_map.mp hx
  exact (strOk_iff y).mp (h y hy)
/-- a short text -/
def okS : PyData → Bool
  | .str x => decide (x.length ≤ 4) && PyData.strOk x
  | _ => false
theorem okS_of {L : List PyData} (h : L.all okS = true) {d : PyData} (hd : d ∈ L) : ∃ x, d = .str x ∧ x.length ≤ 4 ∧ PyData.strOk x = true := by
  have := List.all_eq_true.mp h d hd
  cases d with
  | str x =>
    simp only [okS, Bool.and_eq_true, decide_eq_true_eq] at this
    exact ⟨x, rfl, this.1, this.2⟩
  | _ => cases this
abbrev con__law_spoilt_text : Con := fun ss q _ => ∃ w : Str, ss = [.bag, .dat (.str w)] ∧ (w.length ≤ 4000 ∧ PyData.strOk w = true) ∧ ∀ v : Str, v.length ≤ 3 * w.length + 10 → PyData.strOk v = true → q (.dat (.str v))
section
variable {P : Program} {w : World} {K : PySem.W.Frag} {mg : Str → Option Value} {base : Heap}
abbrev s__law_spoilt_text : Stmt := top 28
abbrev n__law_spoilt_text : List Str := ["_law_bag_here", "_law_text", "_law_at", "_law_way", "_law_lines", "_law_k"]
abbrev p__law_spoilt_text : List Str := ["_law_bag_here", "_law_text"]
theorem sc__law_spoilt_text : FnScope n__law_spoilt_text p__law_spoilt_text (defScope s__law_spoilt_text) := ⟨rfl, rfl, rfl, by decide +kernel, rfl, by decide +kernel, by decide +kernel⟩
theorem ok__law_spoilt_text {f : Addr} {fd : FuncData} (F : Fun K "_law_spoilt_text" "_law_spoilt_text" s__law_spoilt_text f fd) (T : Txt mg) (c__law_take : Cal P w K mg base CX0 4 "_law_take" p__law_take conTake) (c__law_one : Cal P w K mg base CX0 5 "_law_one" p__law_one con__law_one) : FnOk P w K mg base CX0 (5 + 1) f fd p__law_spoilt_text (spOf K p__law_spoilt_text.length con__law_spoilt_text) := by
  refine fn_ok F sc__law_spoilt_text fun cdv A outer s H hr => ?_
  have nd := sc__law_spoilt_text.nd
  refine ⟨_, _, (dss_cons (ds_par3 (i := 2) (j := 3) (l := 4) rfl nd (db_cons (de_fc c__law_take (hr.mono (by decide)) (da_cons (de_var 0) (da_cons (de_bin op_addA od_add (de_callB call_len cd_len (by rfl) T.b_len (by kernel_rfl) (da_cons (de_var 1) da_nil)) de_int) da_nil))) (db_cons (de_fc c__law_take (hr.mono (by decide)) (da_cons (de_var 0) (da_cons de_int da_nil))) (db_cons (de_split (de_var 1) (da_cons de_str da_nil)) db_nil))) (by rfl)) (dss_cons (ds_if (dc_cmp (op_ltA hr.units0) od_lt (de_var 3) de_int (nomark _)) (dss_one (ds_ret (de_bin op_addA od_add (de_sl (de_var 1) do_none (do_some (de_var 2))) (de_sl (de_var 1) (do_some (de_bin op_addA od_add (de_var 2) de_int)) do_none)))) dss_nil) (dss_cons (ds_if (dc_cmp (op_ltA hr.units0) od_lt (de_var 3) de_int (nomark _)) (dss_one (ds_ret (de_bin op_addA od_add (de_bin op_addA od_add (de_sl (de_var 1) do_none (do_some (de_var 2))) (de_fc c__law_one (hr.mono (by decide)) (da_cons (de_var 0) (da_cons (de_lst (da_cons de_str (da_cons de_str (da_cons de_str (da_cons de_str (da_cons de_str (da_cons de_str (da_cons de_str (da_cons de_str (da_cons de_str (da_cons de_str (da_cons de_str (da_cons de_str da_nil))))))))))))) da_nil)))) (de_sl (de_var 1) (do_some (de_var 2)) do_none)))) dss_nil) (dss_cons (ds_if (dc_cmp (op_eqA hr.units) od_eq (de_var 3) de_int (nomark _)) (dss_one (ds_ret (de_bin op_addA od_add (de_bin op_addA od_add (de_sl (de_var 1) do_none (do_some (de_var 2))) (de_fc c__law_one (hr.mono (by decide)) (da_cons (de_var 0) (da_cons (de_lst (da_cons de_str (da_cons de_str (da_cons de_str (da_cons de_str da_nil))))) da_nil)))) (de_sl (de_var 1) (do_some (de_bin op_addA od_add (de_var 2) de_int)) do_none)))) dss_nil) (dss_cons (ds_set (i := 5) nd (de_fc c__law_take (hr.mono (by decide)) (da_cons (de_var 0) (da_cons (de_callB call_len cd_len (by rfl) T.b_len (by kernel_rfl) (da_cons (de_var 4) da_nil)) da_nil)))) (dss_cons (ds_if (dc_cmp (op_eqA hr.units) od_eq (de_var 3) de_int (nomark _)) (dss_one (ds_ret (de_join de_str (da_cons (de_bin op_addA od_add (de_bin op_addA od_add (de_sl (de_var 4) do_none (do_some (de_var 5))) (de_sl (de_var 4) (do_some (de_var 5)) (do_some (de_bin op_addA od_add (de_var 5) de_int)))) (de_sl (de_var 4) (do_some (de_var 5)) do_none)) da_nil)))) dss_nil) (dss_one (ds_ret (de_join de_str (da_cons (de_bin op_addA od_add (de_sl (de_var 4) do_none (do_some (de_var 5))) (de_sl (de_var 4) (do_some (de_bin op_addA od_add (de_var 5) de_int)) do_none)) da_nil)))))))))), ?_⟩
  rintro ss q y hl ⟨w, rfl, ⟨hw, hk⟩, hq⟩
  have hlines := split_sum w
  have hpos := PyProof.Rows.split_pos w "\n"
  have hlo := split_ok (s := "\n") hk
  walk_at "drive"
  refine ⟨rfl, _, rfl, ⟨by omega, by omega⟩, fun at_ ha1 ha2 => ?_⟩
  walk_at "drive"
  refine ⟨rfl, _, rfl, ⟨by omega, by omega⟩, fun way hb1 hb2 => ?_⟩
  walk_at "drive"
  refine t_split (z := w) rfl (by omega) ?_
  generalize Txt.split w "\n" = L at hlines hpos hlo ⊢
  walk_at "drivy"
  refine t_ite (fun h1 => ?_) (fun h1 => ?_)
  · walk_at "drivy"
    have l1 := cut_len w none (some at_)
    have l2 := cut_len w (some (at_ + 1)) none
    refine t_addS (by omega) ?_
    exact hq _ (by rw [cat_len]; omega) (cat_ok (cut_ok hk _ _) (cut_ok hk _ _))
  walk_at "drivy"
  refine t_ite (fun h2 => ?_) (fun h2 => ?_)
  · walk_at "drivy"
    refine ⟨⟨by decide, by decide⟩, fun d hd => ?_⟩
    obtain ⟨x, rfl, hx, hxk⟩ := okS_of (by decide +kernel) hd
    have l1 := cut_len w none (some at_)
    have l2 := cut_len w (some at_) none
    walk_at "drivy"
    refine t_addS (by omega) ?_
    walk_at "drivy"
    refine t_addS (by rw [cat_len]; omega) ?_
    exact hq _ (by rw [cat_len, cat_len]; omega) (cat_ok (cat_ok (cut_ok hk _ _) hxk) (cut_ok hk _ _))
  walk_at "drivy"
  refine t_ite (fun h3 => ?_) (fun h3 => ?_)
  · walk_at "drivy"
    refine ⟨⟨by decide, by decide⟩, fun d hd => ?_⟩
    obtain ⟨x, rfl, hx, hxk⟩ := okS_of (by decide +kernel) hd
    have l1 := cut_len w none (some at_)
    have l2 := cut_len w (some (at_ + 1)) none
    walk_at "drivy"
    refine t_addS (by omega) ?_
    walk_at "drivy"
    refine t_addS (by rw [cat_len]; omega) ?_
    exact hq _ (by rw [cat_len, cat_len]; omega) (cat_ok (cat_ok (cut_ok hk _ _) hxk) (cut_ok hk _ _))
  walk_at "drivy"
  refine ⟨_, rfl, ⟨by rw [strs_len]; omega, by rw [strs_len]; omega⟩, fun k hk1 hk2 => ?_⟩
  walk_at "drivy"
  refine t_ite (fun h4 => ?_) (fun h4 => ?_)
  · walk_at "drivy"
    simp only [cutD_strs]
    have c1 := cutL_sub L none (some k)
    have c2 := cutL_sub L (some k) (some (k + 1))
    have c3 := cutL_sub L (some k) none
    have n1 := c1.length_le
    have n2 := c2.length_le
    have n3 := c3.length_le
    refine t_addL (by rw [strs_len, strs_len]; omega) ?_
    rw [strs_app]
    walk_at "drivy"
    simp only [cutD_strs]
    refine t_addL (by rw [strs_len, strs_len, List.length_append]; omega) ?_
    rw [strs_app]
    walk_at "drivy"
    have m1 := sumL_sub c1
    have m2 := sumL_sub c2
    have m3 := sumL_sub c3
    refine t_join (ys := cutL L none (some k) ++ cutL L (some k) (some (k + 1)) ++ cutL L (some k) none) ?_ (hq _ ?_ ?_)
    · show sumL _ + _ * 1 ≤ _
      rw [sumL_app, sumL_app, List.length_append, List.length_append]; omega
    · refine Nat.le_trans (join_len _) ?_
      rw [sumL_app, sumL_app, List.length_append, List.length_append]; omega
    · refine join_ok fun x hx => ?_
      rcases List.mem_append.mp hx with hx | hx
      · rcases List.mem_append.mp hx with hx | hx
        · exact hlo x (c1.subset hx)
        · exact hlo x (c2.subset hx)
      · exact hlo x (c3.subset hx)
  · walk_at "drivy"
    simp only [cutD_strs]
    have c1 := cutL_sub L none (some k)
    have c3 := cutL_sub L (some (k + 1)) none
    have n1 := c1.length_le
    have n3 := c3.length_le
    refine t_addL (by rw [strs_len, strs_len]; omega) ?_
    rw [strs_app]
    walk_at "drivy"
    have m1 := sumL_sub c1
    have m3 := sumL_sub c3
    refine t_join (ys := cutL L none (some k) ++ cutL L (some (k + 1)) none) ?_ (hq _ ?_ ?_)
    · show sumL _ + _ * 1 ≤ _
      rw [sumL_app, List.length_append]; omega
    · refine Nat.le_trans (join_len _) ?_
      rw [sumL_app, List.length_append]; omega
    · refine join_ok fun x hx => ?_
      rcases List.mem_append.mp hx with hx | hx
      · exact hlo x (c1.subset hx)
      · exact hlo x (c3.subset hx)
end
end K92

-- part K92V
set_option Elab.async false
set_option maxRecDepth 100000
set_option maxHeartbeats 400000
namespace K92
open PySem L2 DL
section
variable {X : Cx} {σ : L2.St} {H : Hp} {Q : VK} {D : L2.Ends} {ta tb : TE} {r : R2} {t u : TS} {c : TT} {i : Nat} {K : PySem.W.Frag} {Y Z : Prop} {v : V} {B : Bool → Hp → Prop}
theorem op_mulOk : OpR X (binaryOp .Mult) (rI IntMulOk fun i j => .int (i * j)) := opI fun _ _ _ _ _ _ _ hc q => PyProof.Rows.mul_int q hc
theorem h_op (h : ta σ H fun x H1 => tb σ H1 fun y H2 => r x y H2 Q) : tOp r ta tb σ H Q := h
theorem h_ts (h : ta σ H fun x H1 => ∃ k, x = .bl k ∧ B k H1) : tTest ta σ H B := h
theorem h_tb (h : ta σ H fun x H1 => ∃ k, x = .bl k ∧ B k H1) : tB ta σ H B := h
theorem h_var (v : V) (e : σ[i]? = some (some v)) (q : Q v H) : tVar i σ H Q := ⟨v, e, q⟩
theorem h_c (q : Q v H) : tC v σ H Q := q
theorem h_seq (h : t { D with nx := u D } σ H) : tSeq t u D σ H := h
theorem h_seqC {I : L2.St → Hp → Prop} (h : ∀ U : TS, (∀ σ' H', I σ' H' → U D σ' H') → t { D with nx := U D } σ H) (k : ∀ σ' H', I σ' H' → u D σ' H') : tSeq t u D σ H := h u k
theorem h_ifS (h : c σ H fun b H1 => if b = true then t D σ H1 else u D σ H1) : tIfS c t u D σ H := h
theorem h_next (h : D.nx σ H) : tNext D σ H := h
theorem h_asg {g : TG} (h : ta σ H fun x H1 => g x σ H1 D.nx) : tAsg ta g D σ H := h
theorem h_set {g : TG} (h : ta σ H fun x H1 => g x σ H1 D.nx) : tAsg ta g D σ H := h
theorem h_name {q : L2.St → Hp → Prop} (h : q (σ.set i (some v)) H) : gName i v σ H q := h
theorem h_ret (h : ta σ H D.rt) : tRet ta D σ H := h
theorem h_tt (h : Y) : if true = true then Y else Z := h
theorem h_ff (h : Z) : if false = true then Y else Z := h
theorem h_aug {to ti te : TE} {tget : V → V → Hp → VK → Prop} {tip : TIp} {tset : TSet} (h : to σ H fun o H1 => ti σ H1 fun i H2 => tget o i H2 fun x H3 => te σ H3 fun y H4 => tip x y H4 fun z H5 => tset o i z H5 fun H6 => D.nx σ H6) : tAugS to ti te tget tip tset D σ H := h
theorem h_ip {f : Int → Int → Int} {i j : Int} (h : Q (.int (f i j)) H) : ipI f (.int i) (.int j) H Q := ⟨i, j, rfl, rfl, h⟩
theorem h_gsub {to ti : TE} {ts : TSet} {q : L2.St → Hp → Prop} (h : to σ H fun o H1 => ti σ H1 fun i H2 => ts o i v H2 fun H3 => q σ H3) : gSub to ti ts v σ H q := h
theorem h_cb {rr : List V → Hp → VK → Prop} {tl : TA} (h : tl σ H fun vs H1 => rr vs H1 Q) : tCB rr tl σ H Q := h
theorem h_nil {q : List V → Hp → Prop} (h : q [] H) : tNil σ H q := h
theorem h_cons {tl : TA} {q : List V → Hp → Prop} (h : ta σ H fun x H1 => tl σ H1 fun xs H2 => q (x :: xs) H2) : tCons ta tl σ H q := h
theorem h_eqI {i j : Int} (h : Q (.bl (decide (i = j))) H) : rEqA K (.int i) (.int j) H Q := .inl ⟨rfl, by
  rw [show decide (V.int i = V.int j) = decide (i = j) from by rw [Bool.eq_iff_iff]; simp]; exact h⟩
theorem h_lt {i j : Int} (h : Q (.bl (decide (i < j))) H) : rLtA K (.int i) (.int j) H Q := .inl ⟨i, j, rfl, rfl, h⟩
theorem h_ge {i j : Int} (h : Q (.bl (decide (j ≤ i))) H) : rI0 (fun i j => .bl (decide (j ≤ i))) (.int i) (.int j) H Q := ⟨i, j, rfl, rfl, h⟩
theorem h_gt {i j : Int} (h : Q (.bl (decide (j < i))) H) : rI0 (fun i j => .bl (decide (j < i))) (.int i) (.int j) H Q := ⟨i, j, rfl, rfl, h⟩
theorem h_add {i j : Int} (h : Q (.int (i + j)) H) : rAddA K (.int i) (.int j) H Q := .inl ⟨i, j, rfl, rfl, h⟩
theorem h_rI {C : Int → Int → Prop} {g : Int → Int → V} {i j : Int} (c : C i j) (h : Q (g i j) H) : rI C g (.int i) (.int j) H Q := ⟨i, j, rfl, rfl, c, h⟩
theorem h_int {i : Int} (h : Q (.int i) H) : rIntA [.int i] H Q := .inl (.inl ⟨i, rfl, h⟩)
theorem h_ix {p : Addr} {xs : List V} {j : Nat} {v : V} (hH : H p = some (.lst xs)) (e : xs[j]? = some v) (h : Q v H) : rIx K (.ref p) (.int (j : Int)) H Q := .inl ⟨p, xs, j, v, rfl, rfl, SqL.of hH, atI_nat e, h⟩
theorem h_get {p : Addr} {xs : List V} {j : Nat} {v : V} (hH : H p = some (.lst xs)) (hj : j < 1000) (e : xs[j]? = some v) (h : Q v H) : rGetL (.ref p) (.int (j : Int)) H Q := ⟨p, xs, j, v, rfl, rfl, hH, by omega, by omega, by simpa using e, h⟩
theorem h_setI {p : Addr} {xs : List V} {j : Nat} {v : V} {q : Hp → Prop} (hH : H p = some (.lst xs)) (hj : j < xs.length) (h : q (upd H p (.lst (xs.set j v)))) : rSetL (.ref p) (.int (j : Int)) v H q := ⟨p, xs, j, j, rfl, rfl, hH, by unfold ixN; rw [if_pos (by omega), if_pos (by omega)]; simp, h⟩
theorem h_len {p : Addr} {xs : List V} (hH : H p = some (.lst xs)) (h : Q (.int xs.length) H) : rLenA K [.ref p] H Q := ⟨.ref p, xs.length, rfl, .inl ⟨xs, SqL.of hH, rfl⟩, h⟩
end
end K92
local macro_rules | `(tactic| walk_at "hand") => `(tactic| (repeat (first | refine K92.h_tt ?_ | refine K92.h_ff ?_ | with_reducible refine K92.h_op ?_ | with_reducible refine K92.h_ts ?_ | with_reducible refine K92.h_tb ?_ | refine K92.h_var _ rfl ?_ | with_reducible refine K92.h_c ?_ | with_reducible refine K92.h_seq ?_ | with_reducible refine K92.h_ifS ?_ | with_reducible refine K92.h_next ?_ | with_reducible refine K92.h_asg ?_ | with_reducible refine K92.h_set ?_ | with_reducible refine K92.h_ret ?_ | with_reducible refine K92.h_aug ?_ | with_reducible refine K92.h_ip ?_ | with_reducible refine K92.h_gsub ?_ | with_reducible refine K92.h_name ?_ | with_reducible refine K92.h_cb ?_ | with_reducible refine K92.h_nil ?_ | with_reducible refine K92.h_cons ?_ | with_reducible refine K92.h_eqI ?_ | with_reducible refine K92.h_lt ?_ | with_reducible refine K92.h_ge ?_ | with_reducible refine K92.h_gt ?_ | with_reducible refine K92.h_add ?_ | with_reducible refine K92.h_int ?_)))
namespace K92
open PySem L2 DL
/-- the bag's object, all else as in H -/
def BagIs (H : Hp) (b c : Addr) (n1 n2 n3 : Int) (H1 : Hp) : Prop := H1 b = some (.lst [.int n1, .int n2, .int n3, .ref c]) ∧ ∀ l, l ≠ b → H1 l = H l
theorem BagIs.set {H H1 : Hp} {b c : Addr} {n1 n2 n3 m1 m2 m3 : Int} (h : BagIs H b c n1 n2 n3 H1) : BagIs H b c m1 m2 m3 (upd H1 b (.lst [.int m1, .int m2, .int m3, .ref c])) :=
  ⟨upd_same, fun l hl => by rw [upd_ne hl]; exact h.2 l hl⟩
theorem h_setB {H H1 : Hp} {b c : Addr} {n1 n2 n3 : Int} {j : Nat} {v : V} {q : Hp → Prop} (B : BagIs H b c n1 n2 n3 H1) (m1 m2 m3 : Int) (e : [V.int n1, .int n2, .int n3, .ref c].set j v = [.int m1, .int m2, .int m3, .ref c]) (hj : j < 4) (h : ∀ H2, BagIs H b c m1 m2 m3 H2 → q H2) : rSetL (.ref b) (.int (j : Int)) v H1 q := by
  refine h_setI B.1 hj ?_
  rw [e]; exact h _ B.set
theorem divw {m i : Int} (h : 0 < m) (h2 : m < 1000000) : CDivW i m := wide_div h (b := 64) (by omega) (by decide) (by decide)
theorem fm {m : Int} (h : 0 < m) (i : Int) : 0 ≤ i.fmod m ∧ i.fmod m < m := by
  rw [Int.fmod_eq_emod_of_nonneg i (by omega)]
  exact ⟨Int.emod_nonneg _ (by omega), Int.emod_lt_of_pos _ h⟩
section
variable {P : Program} {w : World} {K : PySem.W.Frag} {mg : Str → Option Value} {base : Heap}
abbrev s__law_take : Stmt := top 24
abbrev n__law_take : List Str := ["_law_bag_here", "_law_many", "_law_cell", "_law_mixed_here", "_law_drawn_here", "_law_begin", "_law_second"]
theorem sc__law_take : FnScope n__law_take p__law_take (defScope s__law_take) := ⟨rfl, rfl, rfl, by decide +kernel, rfl, by decide +kernel, by decide +kernel⟩

theorem ok__law_take {f : Addr} {fd : FuncData} (F : Fun K "_law_take" "_law_take" s__law_take f fd) (T : Txt mg) : FnOk P w K mg base CX0 (3 + 1) f fd p__law_take (spOf K p__law_take.length conTake) := by
  refine F.ok sc__law_take (fun vs H Q E h => h.1) fun cdv A outer s H vs Q E hr h => ?_
  have nd := sc__law_take.nd
  refine ⟨_, DSs.p (W := fun _ _ _ _ => False) (xc := fun _ _ _ => False) (t := _) (dss_cons (ds_if (dc_cmp (op_eqA hr.units) od_eq (de_ix (de_var 0) de_int) de_int (nomark _)) (dss_cons (ds_set (i := 2) nd de_int) (dss_cons (ds_if (dc_cmp (op_ltA hr.units0) od_lt (de_ix (de_var 0) de_int) (de_callB call_len cd_len (by rfl) T.b_len (by kernel_rfl) (da_cons (de_ix (de_var 0) de_int) da_nil)) (nomark _)) (dss_one (ds_set (i := 2) nd (de_ix (de_ix (de_var 0) de_int) (de_ix (de_var 0) de_int)))) dss_nil) (dss_cons (ds_aug (i := 0) de_int de_int) (dss_cons (ds_if (dc_cmp op_ge od_ge (de_var 2) (de_bin op_pow od_I de_int de_int) (nomark _)) (dss_one (ds_six (i := 0) de_int (de_var 2))) dss_nil) (dss_cons (ds_set (i := 3) nd (de_bin op_addA od_add (de_bin op_addA od_add (de_bin op_mulOk od_I (de_ix (de_var 0) de_int) de_int) (de_bin op_modN od_I (de_callTy cr_int cd_int (by rfl) T.b_int (by kernel_rfl) (da_cons (de_var 2) da_nil)) de_int)) (de_bin op_mulOk od_I de_int (de_ix (de_var 0) de_int)))) (dss_one (ds_six (i := 0) de_int (de_bin op_modN od_I (de_callTy cr_int cd_int (by rfl) T.b_int (by kernel_rfl) (da_cons (de_var 3) da_nil)) de_int)))))))) dss_nil) (dss_cons (ds_if (dc_cmp op_gt od_gt (de_ix (de_var 0) de_int) de_int (nomark _)) (dss_cons (ds_set (i := 4) nd (de_bin op_modN od_I (de_callTy cr_int cd_int (by rfl) T.b_int (by kernel_rfl) (da_cons (de_ix (de_var 0) de_int) da_nil)) (de_var 1))) (dss_cons (ds_six (i := 0) de_int (de_bin op_fdivW od_I (de_ix (de_var 0) de_int) (de_var 1))) (dss_one (ds_ret (de_var 4))))) dss_nil) (dss_cons (ds_set (i := 5) nd (de_bin op_modN od_I (de_callTy cr_int cd_int (by rfl) T.b_int (by kernel_rfl) (da_cons (de_bin op_mulOk od_I (de_bin op_addA od_add (de_ix (de_var 0) de_int) de_int) de_int) da_nil)) de_int)) (dss_cons (ds_set (i := 6) nd (de_bin op_modN od_I (de_callTy cr_int cd_int (by rfl) T.b_int (by kernel_rfl) (da_cons (de_bin op_mulOk od_I (de_bin op_modN od_I (de_callTy cr_int cd_int (by rfl) T.b_int (by kernel_rfl) (da_cons (de_bin op_mulOk od_I (de_var 5) (de_var 5)) da_nil)) de_int) de_int) da_nil)) de_int)) (dss_one (ds_ret (de_bin op_modN od_I (de_callTy cr_int cd_int (by rfl) T.b_int (by kernel_rfl) (da_cons (de_bin op_fdivW od_I (de_var 6) de_int) da_nil)) (de_var 1)))))))), ?_⟩
  obtain ⟨hl, b, F', ss, q, y, e, hb, ha, hc, hq, _⟩ := h
  obtain ⟨m, rfl, ⟨hm1, hm2⟩, hc⟩ := hc
  obtain ⟨⟨v1, vs1, rfl, _, ⟨b', eb, rfl⟩, v2, vs2, rfl, _, hv2, rfl⟩, _⟩ := ha
  have eb : b = some b' := eb
  subst eb
  have hv2 : v2 = .int m := by have h : Rep _ _ _ _ := hv2; simpa only [Rep] using h
  subst hv2
  obtain ⟨hFb, n1, n2, n3, c, ns, hH, hFc, h3, hns⟩ := hb b' rfl
  have hcb : c ≠ b' := fun z => by rw [z, hFb] at hFc; cases hFc
  have hHc : H c = some (.lst (ns.map V.int)) := e _ _ hFc
  have fin : ∀ (k : Int) (H1 : Hp) (n1 n2 n3 : Int), 0 ≤ k → k < m → 0 ≤ n3 → BagIs H b' c n1 n2 n3 H1 → Q (.int k) H1 := fun k H1 n1 n2 n3 k0 k1 h3 B => by
    refine hq (.int k) (.dat (.int k)) F' H1 (hc k k0 k1) ⟨Same.refl F', fun l o z => ?_, fun l o z hl => ?_, fun l o z => .inl z, fun l hl => ?_⟩ (by show Rep _ _ _ _; simp only [Rep]) rfl
    · rw [B.2 l (fun y => by rw [y, hFb] at z; cases z)]; exact e _ _ z
    · rw [B.2 l (fun y => hl (by rw [y]))]; exact z
    · cases hl
      exact ⟨hFb, n1, n2, n3, c, ns, B.1, hFc, h3, hns⟩
  have B0 : BagIs H b' c n1 n2 n3 H := ⟨hH, fun _ _ => rfl⟩
  have cH : ∀ {n1 n2 n3 : Int} {H1 : Hp}, BagIs H b' c n1 n2 n3 H1 → H1 c = some (.lst (ns.map V.int)) := fun B => by rw [B.2 c hcb]; exact hHc
  clear hq hc
  refine h_seqC (I := fun σ' H' => ∃ n1 n2 n3 x2 x3, σ' = [some (.ref b'), some (.int m), x2, x3, none, none, none] ∧ BagIs H b' c n1 n2 n3 H' ∧ 0 ≤ n3) (fun U hU => ?_) (fun σ' H' iv => ?_)
  · walk_at "hand"
    refine h_ix (j := 0) hH rfl ?_
    walk_at "hand"
    refine ⟨_, rfl, ?_⟩
    by_cases e0 : n1 = 0
    · rw [if_pos (decide_eq_true e0)]
      refine h_seq (h_asg (h_c (h_name ?_)))
      dsimp only
      refine h_seqC (I := fun σ' H' => ∃ cell : Int, σ' = [some (.ref b'), some (.int m), some (.int cell), none, none, none, none] ∧ H' = H) (fun U2 hU2 => ?_) (fun σ' H' iv => ?_)
      · walk_at "hand"
        refine h_ix (j := 2) hH rfl ?_
        walk_at "hand"
        refine h_ix (j := 3) hH rfl ?_
        walk_at "hand"
        refine ⟨.ref c, (ns.map V.int).length, rfl, .inl ⟨_, SqL.of hHc, rfl⟩, ?_⟩
        walk_at "hand"
        refine ⟨_, rfl, ?_⟩
        by_cases e1 : n3 < ((ns.map V.int).length : Int)
        · rw [if_pos (decide_eq_true e1)]
          obtain ⟨j, rfl⟩ := Int.eq_ofNat_of_zero_le h3
          have hj : j < ns.length := by rw [List.length_map] at e1; omega
          walk_at "hand"
          refine h_ix (j := 3) hH rfl ?_
          walk_at "hand"
          refine h_ix (j := 2) hH rfl ?_
          refine h_ix (j := j) (v := .int ns[j]) hHc (by rw [List.getElem?_map, List.getElem?_eq_getElem hj]; rfl) ?_
          walk_at "hand"
          exact hU2 _ _ ⟨ns[j], rfl, rfl⟩
        · rw [if_neg (by simpa using e1)]
          exact hU2 _ _ ⟨0, rfl, rfl⟩
      · obtain ⟨cell, rfl, eH⟩ := iv
        rw [eH]
        walk_at "hand"
        refine h_get (j := 2) hH (by decide) rfl ?_
        walk_at "hand"
        refine h_setB (j := 2) B0 n1 n2 (n3 + 1) rfl (by decide) fun H2 B2 => ?_
        dsimp only
        refine h_seqC (I := fun σ' H' => ∃ n1, σ' = [some (.ref b'), some (.int m), some (.int cell), none, none, none, none] ∧ BagIs H b' c n1 n2 (n3 + 1) H') (fun U2 hU2 => ?_) (fun σ' H' iv => ?_)
        · walk_at "hand"
          refine h_rI (C := CPow) (by unfold CPow; decide) ?_
          generalize (10 : Int) ^ ((18 : Int).toNat) = P18
          walk_at "hand"
          refine ⟨_, rfl, ?_⟩
          by_cases e2 : P18 ≤ cell
          · rw [if_pos (decide_eq_true e2)]
            walk_at "hand"
            refine h_setB (j := 0) B2 cell n2 (n3 + 1) rfl (by decide) fun H3 B3 => ?_
            exact hU2 _ _ ⟨_, rfl, B3⟩
          · rw [if_neg (by simpa using e2)]
            exact hU2 _ _ ⟨_, rfl, B2⟩
        · obtain ⟨n1, rfl, B2⟩ := iv
          walk_at "hand"
          refine h_ix (j := 1) B2.1 rfl ?_
          walk_at "hand"
          refine h_rI (IntMulOk.of_right (by decide)) ?_
          walk_at "hand"
          refine h_rI (by decide) ?_
          walk_at "hand"
          refine h_ix (j := 2) B2.1 rfl ?_
          refine h_rI (IntMulOk.of_left (by decide)) ?_
          walk_at "hand"
          refine h_rI (by decide) ?_
          walk_at "hand"
          refine h_setB (j := 1) B2 n1 _ (n3 + 1) rfl (by decide) fun H3 B3 => ?_
          exact hU _ _ ⟨_, _, _, _, _, rfl, B3, by omega⟩
    · rw [if_neg (by simpa using e0)]
      exact hU _ _ ⟨n1, n2, n3, none, none, rfl, B0, h3⟩
  · obtain ⟨n1, n2, n3, x2, x3, rfl, B, h3⟩ := iv
    walk_at "hand"
    refine h_ix (j := 0) B.1 rfl ?_
    walk_at "hand"
    refine ⟨_, rfl, ?_⟩
    by_cases hp : 0 < n1
    · rw [if_pos (decide_eq_true hp)]
      walk_at "hand"
      refine h_ix (j := 0) B.1 rfl ?_
      walk_at "hand"
      refine h_rI (by omega) ?_
      walk_at "hand"
      refine h_ix (j := 0) B.1 rfl ?_
      walk_at "hand"
      refine h_rI (divw hm1 hm2) ?_
      walk_at "hand"
      refine h_setB (j := 0) B _ n2 n3 rfl (by decide) fun H2 B2 => ?_
      walk_at "hand"
      exact fin _ _ _ _ _ (fm hm1 _).1 (fm hm1 _).2 h3 B2
    · rw [if_neg (by simpa using hp)]
      walk_at "hand"
      refine h_ix (j := 1) B.1 rfl ?_
      walk_at "hand"
      refine h_rI (IntMulOk.of_right (by decide)) ?_
      walk_at "hand"
      refine h_rI (by decide) ?_
      obtain ⟨g1, g2⟩ := fm (m := 1000000007) (by decide) ((n2 + 1) * 39373)
      generalize ((n2 + 1) * 39373).fmod 1000000007 = beg at g1 g2 ⊢
      walk_at "hand"
      refine h_rI (IntMulOk.of_right (PySem.intBits_le_64 (by omega) (by omega))) ?_
      walk_at "hand"
      refine h_rI (by decide) ?_
      generalize (beg * beg).fmod 998244353 = sq
      walk_at "hand"
      refine h_rI (IntMulOk.of_right (by decide)) ?_
      walk_at "hand"
      refine h_rI (by decide) ?_
      generalize (sq * 30011).fmod 998244353 = sec
      walk_at "hand"
      refine h_rI (divw (by decide) (by decide)) ?_
      walk_at "hand"
      refine h_rI (by omega) ?_
      exact fin _ _ _ _ _ (fm hm1 _).1 (fm hm1 _).2 h3 B
end
end K92

-- part K92U
set_option Elab.async false
set_option maxRecDepth 100000
set_option maxHeartbeats 1000000
namespace K92
open PySem L2 DL
abbrev con__law_drawn : Con := fun ss q _ => ss = [.bag] ∧ ∀ l : CL, CLok l → q (.ownT (kvC l))
abbrev con__law_bag (K : PySem.W.Frag) (ns : List Int) : Con := fun ss q _ => ss = [scrS K ns] ∧ ∀ ms : List Int, ms.length ≤ 63 → q (.own [.int 0, .int 1234567891, .int 0, .list (ms.map .int)])
theorem cut_take (l : List PyData) (k : Nat) : cutD l none (some (k : Int)) = l.take k := by
  have e : HT.sIx l.length l.length (some (k : Int)) = min k l.length := HT.sIx_nat _ _ k
  unfold cutD
  rw [e, HT.sIx_none, List.drop_zero, Nat.sub_zero]
  by_cases h : k ≤ l.length
  · rw [Nat.min_eq_left h]
  · rw [Nat.min_eq_right (by omega), List.take_of_length_le (Nat.le_refl _), List.take_of_length_le (by omega)]
theorem t_rng {tl : DTA} {ρ : List DL.Slot} {R : List PyData → List DL.Slot → Prop} (h : tl ρ fun rs ρ1 => ∃ j, looks ρ1 rs = some [.int j] ∧ (-(2 ^ 62) ≤ j ∧ j < 2 ^ 62) ∧ R (ups 0 j.toNat) ρ1) : dRng1 tl ρ R := t_rng1 h
theorem ups_get {n i : Nat} {d : PyData} (h : (ups 0 n)[i]? = some d) : i < n ∧ d = .int (i : Int) := by
  unfold ups at h
  rw [List.getElem?_map] at h
  by_cases hi : i < n
  · rw [List.getElem?_range hi] at h
    have h := Option.some.inj h
    exact ⟨hi, by rw [← h]; simp⟩
  · rw [List.getElem?_eq_none (by simpa using hi)] at h; cases h
theorem ups_len (n : Nat) : (ups 0 n).length = n := by unfold ups; rw [List.length_map, List.length_range]
/-- the contents with p's number n -/
def putC (l : CL) (p : Int × Int) (n : Int) : CL := if (l.any fun x => decide (x.1 = p)) = true then l.map (fun x => if x.1 = p then (x.1, n) else x) else l ++ [(p, n)]
theorem put_kvC (l : CL) (p : Int × Int) (n : Int) : putD (kvC l) (pk p) (.int n) = kvC (putC l p n) := by
  unfold putD putC
  have e : ((kvC l).any fun kv => decide (kv.1 = pk p)) = (l.any fun x => decide (x.1 = p)) := by
    unfold kvC
    rw [List.any_map]
    congr 1
    funext x
    exact decide_eq_decide.mpr ⟨fun z => pk_inj z, fun z => by rw [← z]⟩
  rw [e]
  split
  · unfold kvC
    rw [List.map_map, List.map_map]
    refine List.map_congr_left fun x _ => ?_
    show (if pk x.1 = pk p then (pk x.1, PyData.int n) else (pk x.1, .int x.2)) = _
    by_cases z : x.1 = p
    · rw [if_pos (by rw [z])]
      show _ = (pk (if x.1 = p then (x.1, n) else x).1, PyData.int (if x.1 = p then (x.1, n) else x).2)
      rw [if_pos z]
    · rw [if_neg (fun y => z (pk_inj y))]
      show _ = (pk (if x.1 = p then (x.1, n) else x).1, PyData.int (if x.1 = p then (x.1, n) else x).2)
      rw [if_neg z]
  · unfold kvC
    rw [List.map_append]; rfl
theorem putC_len (l : CL) (p : Int × Int) (n : Int) : (putC l p n).length ≤ l.length + 1 := by
  unfold putC
  split
  · rw [List.length_map]; omega
  · rw [List.length_append]; simp
theorem putC_ok {l : CL} (h : CLok l) (hl : l.length ≤ 5) {p : Int × Int} {n : Int} (r : rgC (p, n)) : CLok (putC l p n) := by
  refine ⟨?_, Nat.le_trans (putC_len l p n) (by omega), ?_⟩
  · unfold putC
    split
    · rw [List.map_map]
      have : (Prod.fst ∘ fun x : (Int × Int) × Int => if x.1 = p then (x.1, n) else x) = Prod.fst := by
        funext x
        show (if x.1 = p then (x.1, n) else x).1 = x.1
        split <;> rfl
      rw [this]; exact h.nd
    · rename_i hn
      rw [List.map_append, List.nodup_append]
      refine ⟨h.nd, by simp, fun a ha b hb => ?_⟩
      rw [List.map_cons, List.map_nil, List.mem_singleton] at hb
      obtain ⟨x, hx, rfl⟩ := List.mem_map.mp ha
      subst hb
      intro z
      exact hn (List.any_eq_true.mpr ⟨x, hx, decide_eq_true z⟩)
  · intro x hx
    unfold putC at hx
    split at hx
    · obtain ⟨y, hy, rfl⟩ := List.mem_map.mp hx
      have := h.rg y hy
      by_cases z : y.1 = p
      · rw [if_pos z, z]; exact r
      · rw [if_neg z]; exact this
    · rcases List.mem_append.mp hx with hx | hx
      · exact h.rg x hx
      · rw [List.mem_singleton.mp hx]; exact r
theorem perm_map_inv {α β : Type} {f : α → β} {es fs : List β} (h : es.Perm fs) : ∀ l : List α, fs = l.map f → ∃ m : List α, m.Perm l ∧ es = m.map f := by
  induction h with
  | nil => intro l e; cases l with
    | nil => exact ⟨[], .nil, rfl⟩
    | cons a l => cases e
  | @cons x a b _ ih =>
    intro l e
    cases l with
    | nil => cases e
    | cons y l =>
      injection e with e1 e2
      obtain ⟨m, p, q⟩ := ih l e2
      exact ⟨y :: m, p.cons y, by rw [List.map_cons, ← e1, ← q]⟩
  | swap x y a =>
    intro l e
    match l, e with
    | u :: v :: l, e =>
      injection e with e1 e2
      injection e2 with e2 e3
      exact ⟨v :: u :: l, .swap u v l, by rw [List.map_cons, List.map_cons, ← e1, ← e2, ← e3]⟩
  | trans _ _ ih1 ih2 =>
    intro l e
    obtain ⟨m, p, q⟩ := ih2 l e
    obtain ⟨m', p', q'⟩ := ih1 m q
    exact ⟨m', p'.trans p, q'⟩
theorem t_dictT {t : KV} {q : DL.Slot → Prop} (h : (t.map (·.1)).Nodup ∧ t.length ≤ 100000) (k : q (.ownT t)) : oDictT [.list (itemsOf t)] q := by
  show withKT (pairsD (itemsOf t)) _
  rw [pairsD_items]; exact ⟨h, k⟩
theorem kvC_nd {l : CL} (h : CLok l) : ((kvC l).map (·.1)).Nodup := by
  have e : (kvC l).map (·.1) = (l.map (·.1)).map pk := by unfold kvC; rw [List.map_map, List.map_map]; rfl
  rw [e]
  exact List.pairwise_map.mpr (h.nd.imp fun z y => z (pk_inj y))
theorem inD_of {L : List PyData} {p : Int → Bool} (h : (L.all fun d => match d with | .int i => p i | _ => false) = true) {d : PyData} (hd : d ∈ L) : ∃ i, d = .int i ∧ p i = true := by
  have := List.all_eq_true.mp h d hd
  cases d with
  | int i => exact ⟨i, rfl, this⟩
  | _ => cases this
section
variable {P : Program} {w : World} {K : PySem.W.Frag} {mg : Str → Option Value} {base : Heap}
abbrev s__law_drawn : Stmt := top 35
abbrev n__law_drawn : List Str := ["_law_bag_here", "_law_found", "_law_k", "_law_address"]
abbrev p__law_drawn : List Str := ["_law_bag_here"]
theorem sc__law_drawn : FnScope n__law_drawn p__law_drawn (defScope s__law_drawn) := ⟨rfl, rfl, rfl, by decide +kernel, rfl, by decide +kernel, by decide +kernel⟩
theorem ok__law_drawn {f : Addr} {fd : FuncData} (F : Fun K "_law_drawn" "_law_drawn" s__law_drawn f fd) (T : Txt mg) (c__law_take : Cal P w K mg base CX0 4 "_law_take" p__law_take conTake) (c__law_one : Cal P w K mg base CX0 5 "_law_one" p__law_one con__law_one) (c__law_mixed : Cal P w K mg base CX0 5 "_law_mixed" p__law_mixed con__law_mixed) : FnOk P w K mg base CX0 (5 + 1) f fd p__law_drawn (spOf K p__law_drawn.length con__law_drawn) := by
  refine fn_ok F sc__law_drawn fun cdv A outer s H hr => ?_
  have nd := sc__law_drawn.nd
  refine ⟨_, _, (dss_cons (ds_set (i := 1) (hx := Or.inr rfl) nd de_dnewT) (dss_cons (ds_for PassesOwn.never rfl (di_rng1 (da_cons (de_fc c__law_take (hr.mono (by decide)) (da_cons (de_var 0) (da_cons de_int da_nil))) da_nil) T.b_range) (dg_name (i := 2) nd) (dss_cons (ds_set (i := 3) nd (de_tup (da_cons (de_fc c__law_one (hr.mono (by decide)) (da_cons (de_var 0) (da_cons (de_lst (da_cons de_int (da_cons de_int (da_cons de_int (da_cons de_int (da_cons de_int (da_cons de_int da_nil))))))) da_nil))) (da_cons (de_fc c__law_one (hr.mono (by decide)) (da_cons (de_var 0) (da_cons (de_lst (da_cons (de_neg de_int) (da_cons de_int (da_cons de_int (da_cons de_int (da_cons de_int (da_cons de_int (da_cons de_int da_nil)))))))) da_nil))) da_nil)))) (dss_one (ds_putT (i := 1) (units1 hr) (de_var 3) (de_fc c__law_one (hr.mono (by decide)) (da_cons (de_var 0) (da_cons (de_lst (da_cons de_int (da_cons de_int (da_cons (de_neg de_int) (da_cons (de_bin op_pow od_I de_int de_int) (da_cons (de_neg (de_bin op_pow od_I de_int de_int)) (da_cons de_int da_nil))))))) da_nil))))))) (dss_one (ds_ret (de_callTy (cr_dictT rfl hr.units) cd_dictT (by rfl) T.b_dict (by kernel_rfl) (da_cons (de_lc (own := [("_law_address", 3)]) rfl nd (di_seq (de_fc c__law_mixed (hr.mono (by decide)) (da_cons (de_var 0) (da_cons (de_callB (cr_sortK rfl hr.units) cd_sortK (by rfl) T.b_sorted (by kernel_rfl) (da_cons (de_var 1) da_nil)) da_nil)))) (by show blkC n__law_drawn (defScope s__law_drawn) _ _ = true; decide +kernel) (fun _ _ _ _ _ => (dg_name (i := 3) nd)) (fun _ _ _ _ _ => dts_nil) (fun _ _ _ _ _ => (de_tup (da_cons (de_var 3) (da_cons (de_getT (units1 hr) (de_var 1) (de_var 3)) da_nil))))) da_nil)))))), ?_⟩
  rintro ss q y hl ⟨rfl, hq⟩
  walk_at "drive"
  refine t_for ?_
  walk_at "drive"
  refine ⟨rfl, _, rfl, ⟨by omega, by omega⟩, fun n hn1 hn2 => ?_⟩
  refine ⟨n, rfl, ⟨by omega, by omega⟩, ?_⟩
  refine ⟨fun i ρ' => ∃ l s2 s3, ρ' = [.bag, .ownT (kvC l), s2, s3] ∧ s3.isOwn = false ∧ CLok l ∧ l.length ≤ i, ⟨[], _, _, rfl, rfl, ⟨List.Pairwise.nil, by simp, fun x hx => by cases hx⟩, Nat.le_refl _⟩, fun i d ρ' hd iv => ?_, fun ρ' iv => ?_⟩
  · obtain ⟨l, s2, s3, rfl, h3, ok, hlen⟩ := iv
    obtain ⟨hi, rfl⟩ := ups_get hd
    walk_at "drivy"
    refine ⟨⟨by decide, by decide⟩, fun d hd => ?_⟩
    obtain ⟨c, rfl, hc⟩ := inD_of (p := fun i => decide (0 ≤ i) && decide (i ≤ 1000)) (by decide +kernel) hd
    walk_at "drivy"
    refine ⟨⟨by decide, by decide⟩, fun d hd => ?_⟩
    obtain ⟨r, rfl, hr⟩ := inD_of (p := fun i => decide (-1 ≤ i) && decide (i ≤ 1000)) (by decide +kernel) hd
    walk_at "drivy"
    refine t_pow (by unfold CPow; decide) ?_
    walk_at "drivy"
    refine t_pow (by unfold CPow; decide) ?_
    walk_at "drivy"
    refine ⟨⟨by decide, by decide⟩, fun d hd => ?_⟩
    obtain ⟨n, rfl, hn⟩ := inD_of (p := fun i => decide (-1000000000000 ≤ i) && decide (i ≤ 1000000000000)) (by decide +kernel) hd
    simp only [Bool.and_eq_true, decide_eq_true_eq] at hc hr hn
    walk_at "drivz"
    refine ⟨?_, putC l (c, r) n, .dat (.int i), .dat (.tuple [.int c, .int r]), ?_, rfl, putC_ok ok (by omega) ⟨hc, hr, by omega⟩, Nat.le_trans (putC_len _ _ _) (by omega)⟩
    · show (kvC l).length < 100000
      unfold kvC; rw [List.length_map]; omega
    · rw [← put_kvC]; rfl
  · obtain ⟨l, s2, s3, rfl, h3, ok, hlen⟩ := iv
    walk_at "drive"
    unfold dLc
    refine t_dseq ?_
    walk_at "drive"
    refine t_sortK (sortOk_keys ok.len) ?_
    rw [sorted_keys]
    walk_at "drive"
    refine ⟨rfl, _, rfl, ?_, fun es hp => ?_⟩
    · have := ok.sort.len
      rw [List.length_map]; omega
    obtain ⟨m, pm, rfl⟩ := perm_map_inv hp (sortC l) rfl
    have pm := pm.trans (sortC_perm l)
    have okm := ok.perm pm
    walk_at "drive"
    refine ⟨by show (!s3.isOwn && true) = true; rw [h3]; rfl, fun i acc => acc = itemsOf (kvC (m.take i)), by show [] = itemsOf (kvC (m.take 0)); rw [List.take_zero]; rfl, fun i d acc hd iv => ?_, fun acc iv => ?_⟩
    · rw [List.getElem?_map] at hd
      obtain ⟨x, hx, rfl⟩ := Option.map_eq_some_iff.mp hd
      have hi : i < m.length := (List.getElem?_eq_some_iff.mp hx).1
      have hm := List.mem_of_getElem? hx
      have hg := get_kvC ok.nd (pm.mem_iff.mp hm)
      have h6 := okm.len
      refine t_name ⟨⟨rfl, rfl⟩, t_yes (t_tt ?_)⟩
      walk_at "drive"
      refine ⟨_, _, kvC l, pk x.1, .int x.2, rfl, rfl, kvsT_dT _, rfl, hg, ?_⟩
      walk_at "drivz"
      refine ⟨?_, ?_⟩
      · rw [iv]; unfold itemsOf kvC; rw [List.length_map, List.length_map, List.length_take]; omega
      · rw [iv]
        show _ = itemsOf (kvC (m.take (i + 1)))
        rw [take_succ_get hx]
        unfold itemsOf kvC
        rw [List.map_append, List.map_append]; rfl
    · rw [List.length_map, List.take_length] at iv
      subst iv
      walk_at "drive"
      refine t_dictT ⟨kvC_nd okm, ?_⟩ ?_
      · have h6 := okm.len
        unfold kvC; rw [List.length_map]; omega
      · exact hq m okm
abbrev s__law_bag : Stmt := top 23
abbrev n__law_bag : List Str := ["_law_script", "_law_cell"]
abbrev p__law_bag : List Str := ["_law_script"]
theorem sc__law_bag : FnScope n__law_bag p__law_bag (defScope s__law_bag) := ⟨rfl, rfl, rfl, by decide +kernel, rfl, by decide +kernel, by decide +kernel⟩
theorem ok__law_bag {f : Addr} {fd : FuncData} (F : Fun K "_law_bag" "_law_bag" s__law_bag f fd) (T : Txt mg) {ns : List Int} : FnOk P w K mg base CX0 (4 + 1) f fd p__law_bag (spOf K p__law_bag.length (con__law_bag K ns)) := by
  refine fn_ok F sc__law_bag fun cdv A outer s H hr => ?_
  have nd := sc__law_bag.nd
  refine ⟨_, _, (dss_one (ds_ret (de_lst (da_cons de_int (da_cons de_int (da_cons de_int (da_cons (de_lc (own := [("_law_cell", 1)]) rfl nd (di_seq (de_slX (i := 0) (ns := ns) do_none (do_some de_int))) (by show blkC n__law_bag (defScope s__law_bag) _ _ = true; decide +kernel) (fun _ _ _ _ _ => (dg_name (i := 1) nd)) (fun _ _ _ _ _ => dts_nil) (fun _ _ _ _ _ => (de_callB call_abs cd_abs (by rfl) T.b_abs (by kernel_rfl) (da_cons (de_var 1) da_nil)))) da_nil))))))), ?_⟩
  rintro ss q y hl ⟨rfl, hq⟩
  walk_at "drive"
  unfold dLc
  refine t_dseq ?_
  refine ⟨rfl, ?_⟩
  walk_at "drive"
  rw [show ((63 : Int)) = ((63 : Nat) : Int) from rfl, cut_take]
  refine ⟨rfl, fun i acc => ∃ ms : List Int, ms.length = i ∧ acc = ms.map .int, ⟨[], rfl, rfl⟩, fun i d acc hd iv => ?_, fun acc iv => ?_⟩
  · obtain ⟨ms, hl, rfl⟩ := iv
    have hi : i < 63 := by
      have := (List.getElem?_eq_some_iff.mp hd).1
      rw [List.length_take] at this
      omega
    rw [← List.map_take, List.getElem?_map] at hd
    obtain ⟨z, _, rfl⟩ := Option.map_eq_some_iff.mp hd
    refine t_name ⟨⟨rfl, rfl⟩, t_yes (t_tt ?_)⟩
    walk_at "drivz"
    refine ⟨by rw [List.length_map]; omega, ms ++ [if z < 0 then -z else z], by rw [List.length_append, hl]; rfl, by rw [List.map_append]; rfl⟩
  · obtain ⟨ms, hl, rfl⟩ := iv
    walk_at "drive"
    refine hq ms ?_
    rw [hl, List.length_take]; omega
end
end K92

-- part K92W
set_option Elab.async false
set_option maxRecDepth 100000
set_option maxHeartbeats 400000
namespace K92
open PySem L2 DL TL
/-! ### what may be shown -/
def small (z : Int) : Prop := z.natAbs < 10 ^ 60
theorem small_shown {z : Int} (h : small z) : (PyData.shown (.int z)).length ≤ 62 := by
  have := PySem.int_text_length_le10 (k := 60) (by decide) h
  have e : (PyData.shown (.int z)).length = (toString z).length := by
    show (Str.ofString (toString z)).length = _
    rw [PySem.ofString_length]
  omega
theorem small_log {z : Int} (h : small z) : z.natAbs.log2 < 1920 := by
  rcases Nat.eq_zero_or_pos z.natAbs with h0 | hp
  · rw [h0]; decide
  · have : z.natAbs < 2 ^ 1920 := Nat.lt_trans h (by decide +kernel)
    exact (Nat.log2_lt (Nat.ne_of_gt hp)).mpr this
def kvOk (e : List Key × PyData) : Prop := ∃ p n, e = (pk p, .int n) ∧ small p.1 ∧ small p.2 ∧ small n
/-- data of a dict of contents -/
theorem kv_okKv : ∀ {t : KV}, (∀ e ∈ t, kvOk e) → okKv (t.map fun p => (tkeyD p.1, p.2)) = true ∧ noListKv (t.map fun p => (tkeyD p.1, p.2)) = true ∧ PyData.depthKv (t.map fun p => (tkeyD p.1, p.2)) ≤ 1 ∧ PyData.showableKv (t.map fun p => (tkeyD p.1, p.2)) = true ∧
    PyData.leavesShortKv 62 (t.map fun p => (tkeyD p.1, p.2)) = true ∧ PyData.bulkKv (t.map fun p => (tkeyD p.1, p.2)) = 4 * t.length
  | [], _ => ⟨rfl, rfl, Nat.zero_le _, rfl, rfl, rfl⟩
  | e :: t, h => by
    obtain ⟨a1, a2, a3, a4, a5, a6⟩ := kv_okKv (t := t) fun x hx => h x (List.mem_cons_of_mem _ hx)
    obtain ⟨p, n, rfl, h1, h2, h3⟩ := h e List.mem_cons_self
    rw [List.map_cons]
    refine ⟨by rw [okKv, a1]; rfl, by rw [noListKv, a2]; rfl, ?_, ?_, ?_, ?_⟩
    · rw [PyData.depthKv]
      exact Nat.max_le.mpr ⟨Nat.le_refl 1, a3⟩
    · rw [PyData.showableKv, a4]
      show ((decide (p.1.natAbs.log2 < 1920) && (decide (p.2.natAbs.log2 < 1920) && true)) && decide (n.natAbs.log2 < 1920) && true) = true
      rw [decide_eq_true (small_log h1), decide_eq_true (small_log h2), decide_eq_true (small_log h3)]; rfl
    · rw [PyData.leavesShortKv, a5]
      show ((decide ((PyData.shown (.int p.1)).length ≤ 62) && (decide ((PyData.shown (.int p.2)).length ≤ 62) && true)) && decide ((PyData.shown (.int n)).length ≤ 62) && true) = true
      rw [decide_eq_true (small_shown h1), decide_eq_true (small_shown h2), decide_eq_true (small_shown h3)]; rfl
    · rw [PyData.bulkKv, a6, List.length_cons]
      have e1 : (tkeyD (pk p)).bulk = 2 := rfl
      have e2 : (PyData.int n).bulk = 0 := rfl
      simp only [e1, e2]
      omega
theorem repr_dT {t : KV} (h : ∀ e ∈ t, kvOk e) (l : t.length ≤ 3000) : reprOk (dT t) := by
  obtain ⟨a1, a2, a3, a4, a5, a6⟩ := kv_okKv h
  refine ⟨rfl, ?_, ?_, a4, fun _ => a2, ?_⟩
  · show ((kvsT _).isSome && okKv _) = true
    rw [kvsT_dT, a1]; rfl
  · show PyData.depthKv _ + 1 ≤ 50
    omega
  · have := PyData.shown_le_bulk 62 (by decide) (dT t) a5
    have e : (dT t).bulk = 4 * t.length := a6
    rw [e] at this
    omega
theorem repr_read {t : KV} (h : ∀ e ∈ t, kvOk e) (l : t.length ≤ 3000) : reprOk (.tuple [.str "read", dT t]) := by
  obtain ⟨a1, a2, a3, a4, a5, a6⟩ := kv_okKv h
  refine ⟨rfl, ?_, ?_, ?_, fun _ => ?_, ?_⟩
  · show (true && (((kvsT _).isSome && okKv _) && true)) = true
    rw [kvsT_dT, a1]; rfl
  · show max 0 (max (PyData.depthKv _ + 1) 0) + 1 ≤ 50
    omega
  · show (true && (PyData.showableKv _ && true)) = true
    rw [a4]; rfl
  · show (true && (noListKv _ && true)) = true
    rw [a2]; rfl
  · have a7 : (PyData.str "read").leavesShort 62 = true := by decide +kernel
    have := PyData.shown_le_bulk 62 (by decide) (.tuple [.str "read", dT t]) (by
      show ((PyData.str "read").leavesShort 62 && (PyData.leavesShortKv 62 _ && true)) = true
      rw [a7, a5]; rfl)
    have e : (PyData.tuple [.str "read", dT t]).bulk = 4 + 1 + (4 * t.length + 1 + 0) := by
      show (PyData.str "read").bulk + 1 + (PyData.bulkKv _ + 1 + 0) = _
      rw [a6, show (PyData.str "read").bulk = 4 by decide +kernel]
    rw [e] at this
    omega
theorem repr_pair {p : Int × Int} (h1 : small p.1) (h2 : small p.2) : reprOk (pairD p) := by
  refine ⟨rfl, rfl, by show max 0 (max 0 0) + 1 ≤ 50; decide, ?_, fun h => (by cases h), ?_⟩
  · show (decide (p.1.natAbs.log2 < 1920) && (decide (p.2.natAbs.log2 < 1920) && true)) = true
    rw [decide_eq_true (small_log h1), decide_eq_true (small_log h2)]; rfl
  · have := PyData.shown_le_bulk 62 (by decide) (pairD p) (by
      show (decide ((PyData.shown (.int p.1)).length ≤ 62) && (decide ((PyData.shown (.int p.2)).length ≤ 62) && true)) = true
      rw [decide_eq_true (small_shown h1), decide_eq_true (small_shown h2)]; rfl)
    have e : (pairD p).bulk = 2 := rfl
    rw [e] at this
    omega
theorem repr_readP {p : Int × Int} (h1 : small p.1) (h2 : small p.2) : reprOk (.tuple [.str "read", pairD p]) := by
  have a7 : (PyData.str "read").leavesShort 62 = true := by decide +kernel
  refine ⟨rfl, rfl, by show max 0 (max (max 0 (max 0 0) + 1) 0) + 1 ≤ 50; decide, ?_, fun h => (by cases h), ?_⟩
  · show (true && ((decide (p.1.natAbs.log2 < 1920) && (decide (p.2.natAbs.log2 < 1920) && true)) && true)) = true
    rw [decide_eq_true (small_log h1), decide_eq_true (small_log h2)]; rfl
  · have := PyData.shown_le_bulk 62 (by decide) (.tuple [.str "read", pairD p]) (by
      show ((PyData.str "read").leavesShort 62 && ((decide ((PyData.shown (.int p.1)).length ≤ 62) && (decide ((PyData.shown (.int p.2)).length ≤ 62) && true)) && true)) = true
      rw [a7, decide_eq_true (small_shown h1), decide_eq_true (small_shown h2)]; rfl)
    have e : (PyData.tuple [.str "read", pairD p]).bulk = 4 + 1 + (2 + 1 + 0) := by
      show (PyData.str "read").bulk + 1 + (2 + 1 + 0) = _
      rw [show (PyData.str "read").bulk = 4 by decide +kernel]
    rw [e] at this
    omega
theorem repr_no {n : Int} (h1 : small n) : reprOk (.tuple [.str "notext", .int n]) := by
  have a7 : (PyData.str "notext").leavesShort 62 = true := by decide +kernel
  refine ⟨rfl, rfl, by show max 0 (max 0 0) + 1 ≤ 50; decide, ?_, fun h => (by cases h), ?_⟩
  · show (true && (decide (n.natAbs.log2 < 1920) && true)) = true
    rw [decide_eq_true (small_log h1)]; rfl
  · have := PyData.shown_le_bulk 62 (by decide) (.tuple [.str "notext", .int n]) (by
      show ((PyData.str "notext").leavesShort 62 && (decide ((PyData.shown (.int n)).length ≤ 62) && true)) = true
      rw [a7, decide_eq_true (small_shown h1)]; rfl)
    have e : (PyData.tuple [.str "notext", .int n]).bulk = 6 + 1 + (0 + 1 + 0) := by
      show (PyData.str "notext").bulk + 1 + (0 + 1 + 0) = _
      rw [show (PyData.str "notext").bulk = 6 by decide +kernel]
    rw [e] at this
    omega
/-! ### what is read is small -/
theorem fold_lt : ∀ (cs : List Nat) (a : Nat), NumText.AllDigits cs → cs.foldl (fun acc c => acc * 10 + (c - 48)) a < (a + 1) * 10 ^ cs.length
  | [], a, _ => by simp
  | c :: cs, a, h => by
    have hc := h.head
    have ih := fold_lt cs (a * 10 + (c - 48)) h.tail
    rw [List.foldl_cons, List.length_cons, Nat.pow_succ]
    refine Nat.lt_of_lt_of_le ih ?_
    have : a * 10 + (c - 48) + 1 ≤ (a + 1) * 10 := by omega
    calc (a * 10 + (c - 48) + 1) * 10 ^ cs.length ≤ (a + 1) * 10 * 10 ^ cs.length := Nat.mul_le_mul_right _ this
      _ = (a + 1) * (10 ^ cs.length * 10) := by rw [Nat.mul_assoc, Nat.mul_comm 10]
theorem val_lt {cs : List Nat} (h : NumText.AllDigits cs) (l : cs.length ≤ 60) : NumText.digitsVal cs < 10 ^ 60 := by
  have := fold_lt cs 0 h
  unfold NumText.digitsVal
  rw [Nat.zero_add, Nat.one_mul] at this
  exact Nat.lt_of_lt_of_le this (Nat.pow_le_pow_right (by decide) l)
theorem rd_small {w : Str} {n : Int} (h : rdO w = some n) : small n := by
  unfold rdO at h
  split at h
  · rename_i hc
    obtain ⟨h1, h2⟩ := hc
    have hd := h1
    unfold digs at hd
    simp only [Bool.and_eq_true, decide_eq_true_eq, List.all_eq_true] at hd
    obtain ⟨⟨l1, l2⟩, l3⟩ := hd
    have ad : NumText.AllDigits (tl (pl w)) := fun c hc => (inDig_iff c).mp (l3 c hc)
    have hne : tl (pl w) ≠ [] := fun z => by rw [z] at l1; simp at l1
    have hl := len_pl w
    have l2' := l2
    rw [tl_len] at l2'
    have h := Option.some.inj h
    unfold small
    cases hn : isNeg w with
    | true =>
      rw [intText_neg (pl_neg hn) ad hne (by omega)] at h
      have h : -((NumText.digitsVal (tl (pl w)) : Nat) : Int) = n := h
      rw [← h, Int.natAbs_neg, Int.natAbs_natCast]
      exact val_lt ad l2
    | false =>
      rw [pl_pos hn] at ad hne l2 l2'
      rw [intText_digits ad hne (by omega)] at h
      have h : ((NumText.digitsVal (tl w) : Nat) : Int) = n := h
      rw [← h, Int.natAbs_natCast]
      exact val_lt ad l2
  · cases h
theorem nat_small {w : Str} {n : Int} (h : natO w = some n) : small n := by
  unfold natO at h
  cases e : rdO w with
  | none => rw [e] at h; cases h
  | some m =>
    rw [e] at h
    simp only at h
    split at h
    · cases h; exact rd_small e
    · cases h
theorem small_1 : small (-1) := by unfold small; decide
theorem row_small {w : Str} {n : Int} (h : rowO w = some n) : small n := by
  unfold rowO at h
  split at h
  · cases h; exact small_1
  · exact nat_small h
theorem cin_small {ws : List Str} {p : Int × Int} {n : Int} (h : cinO ws = some (p, n)) : small p.1 ∧ small p.2 ∧ small n := by
  match ws, h with
  | [a, b, c], h =>
    simp only [cinO] at h
    cases e1 : natO a with
    | none => rw [e1] at h; cases h
    | some x =>
      cases e2 : rowO b with
      | none => rw [e1, e2] at h; cases h
      | some y =>
        cases e3 : rdO c with
        | none => rw [e1, e2, e3] at h; cases h
        | some z =>
          rw [e1, e2, e3] at h
          simp only at h
          split at h
          · cases h; exact ⟨nat_small e1, row_small e2, rd_small e3⟩
          · cases h
theorem put_mem {a : KV} {k : List Key} {v : PyData} {e : List Key × PyData} (h : e ∈ putD a k v) : e ∈ a ∨ e = (k, v) := by
  unfold putD at h
  split at h
  · obtain ⟨x, hx, rfl⟩ := List.mem_map.mp h
    by_cases z : x.1 = k
    · rw [if_pos z, z]; exact .inr rfl
    · rw [if_neg z]; exact .inl hx
  · rcases List.mem_append.mp h with h | h
    · exact .inl h
    · exact .inr (List.mem_singleton.mp h)
theorem rcL_ok : ∀ (ls : List Str) (i : Nat) (acc : KV) (el : Option (Int × Int)) {f : KV}, (∀ e ∈ acc, kvOk e) → rcL ls i acc el = .ok f → (∀ e ∈ f, kvOk e) ∧ f.length ≤ acc.length + ls.length
  | [], i, acc, el, f, h, e => by
    rw [rcL] at e; cases e
    exact ⟨h, by simp⟩
  | l :: ls, i, acc, el, f, h, e => by
    rw [rcL] at e
    cases c : cinO (Txt.split l " ") with
    | none => rw [c] at e; cases e
    | some pn =>
      obtain ⟨p, n⟩ := pn
      rw [c] at e
      have e : rcL ls (i + 1) (putD acc (pk p) (.int n)) (some p) = .ok f := by
        cases el with
        | none => exact e
        | some e' =>
          simp only at e
          split at e
          · cases e
          · exact e
      obtain ⟨h1, h2, h3⟩ := cin_small c
      obtain ⟨r1, r2⟩ := rcL_ok ls (i + 1) (putD acc (pk p) (.int n)) (some p) (fun x hx => by
        rcases put_mem hx with hx | rfl
        · exact h x hx
        · exact ⟨p, n, rfl, h1, h2, h3⟩) e
      have := putD_len acc (pk p) (.int n)
      exact ⟨r1, by rw [List.length_cons]; omega⟩
theorem rcL_err : ∀ (ls : List Str) (i : Nat) (acc : KV) (el : Option (Int × Int)) {n : Int}, rcL ls i acc el = .error n → 0 ≤ n ∧ n ≤ (i : Int) + ls.length
  | [], i, acc, el, n, e => by rw [rcL] at e; cases e
  | l :: ls, i, acc, el, n, e => by
    rw [rcL] at e
    have here : Except.error (ε := Int) (α := KV) ((i : Int) + 1) = .error n → 0 ≤ n ∧ n ≤ (i : Int) + (l :: ls).length := fun e => by
      cases e
      rw [List.length_cons]
      omega
    cases c : cinO (Txt.split l " ") with
    | none => rw [c] at e; exact here e
    | some pn =>
      obtain ⟨p, m⟩ := pn
      rw [c] at e
      have e : Except.error (ε := Int) (α := KV) ((i : Int) + 1) = .error n ∨ rcL ls (i + 1) (putD acc (pk p) (.int m)) (some p) = .error n := by
        cases el with
        | none => exact .inr e
        | some e' =>
          simp only at e
          split at e
          · exact .inl e
          · exact .inr e
      rcases e with e | e
      · exact here e
      · have := rcL_err ls (i + 1) _ _ e
        rw [List.length_cons]
        omega
theorem small_le {n : Int} (h : 0 ≤ n) (h2 : n ≤ 1000000) : small n := by
  unfold small
  have : (1000000 : Nat) < 10 ^ 60 := by decide
  omega
/-- few lines -/
def fewL (d : PyData) : Prop := ∀ w, d = .str w → (linesI w).length ≤ 2900
theorem repr_cont {d : PyData} (h : fewL d) : reprOk (outD dT (contR d)) := by
  cases d with
  | str w =>
    have hl := h w rfl
    cases e : rcL (linesI w) 0 [] none with
    | ok f =>
      obtain ⟨h1, h2⟩ := rcL_ok (linesI w) 0 [] none (fun e he => by cases he) e
      simp only [contR, e]
      split
      · exact repr_read h1 (by rw [List.length_nil] at h2; omega)
      · exact repr_no (small_le (by omega) (by omega))
    | error n =>
      have := rcL_err _ _ _ _ e
      simp only [contR, e]
      exact repr_no (small_le (by omega) (by omega))
  | _ => exact repr_no (small_le (by decide) (by decide))
theorem cell_small {ws : List Str} {r : Int} {p : Int × Int} (hr : small r) (h : cellO ws r = some p) : small p.1 ∧ small p.2 := by
  match ws, h with
  | [a, b], h =>
    simp only [cellO] at h
    cases e1 : natO a with
    | none => rw [e1] at h; cases h
    | some x =>
      rw [e1] at h
      simp only at h
      have hx := nat_small e1
      split at h
      · cases h; exact ⟨hx, small_1⟩
      · split at h
        · cases h; exact ⟨hx, hr⟩
        · cases e2 : natO b with
          | none => rw [e2] at h; cases h
          | some y =>
            rw [e2] at h
            simp only at h
            split at h
            · cases h
            · cases h; exact ⟨hx, nat_small e2⟩
theorem repr_cell {d : PyData} {r : Int} (hr : small r) : reprOk (outD pairD (cellR d r)) := by
  cases d with
  | str w =>
    cases e : cellO (Txt.split w " ") r with
    | none => simp only [cellR, e]; exact repr_no (small_le (by decide) (by decide))
    | some p =>
      obtain ⟨h1, h2⟩ := cell_small hr e
      simp only [cellR, e]; exact repr_readP h1 h2
  | _ => exact repr_no (small_le (by decide) (by decide))
theorem kvC_ok {l : CL} (h : CLok l) : ∀ e ∈ kvC l, kvOk e := fun e he => by
  obtain ⟨x, hx, rfl⟩ := List.mem_map.mp he
  obtain ⟨h1, h2, h3⟩ := h.rg x hx
  have : (10 : Nat) ^ 12 < 10 ^ 60 := by decide
  refine ⟨x.1, x.2, rfl, small_le h1.1 (by omega), ?_, ?_⟩
  · unfold small; omega
  · unfold small; omega
theorem repr_kvC {l : CL} (h : CLok l) : reprOk (dT (kvC l)) := repr_dT (kvC_ok h) (by have := h.len; unfold kvC; rw [List.length_map]; omega)
/-! ### cells: read what is shown -/
theorem cell_back {c y r : Int} (h : (0 ≤ c ∧ c ≤ 1000) ∧ (-1 ≤ y ∧ y ≤ r) ∧ (0 ≤ r ∧ r ≤ 1000)) : cellR (.str (cellT (c, y) r)) r = .ok (c, y) := by
  obtain ⟨h1, h2, h3⟩ := h
  have hc := nat_nT (n := c) (by omega) h1.1
  have rf : 32 ∉ tl (rowT y r) := by
    unfold rowT
    split
    · decide +kernel
    · split
      · decide +kernel
      · exact nT_free (by decide)
  have e : cellT (c, y) r = Txt.join " " [nT c, rowT y r] := by
    refine tl_inj ?_
    unfold cellT
    simp only [tl_app]
    rw [join_tl, show tl Str.empty = [] from rfl, show tl (" " : Str) = [32] by decide +kernel]
    simp [joinL]
  have s : Txt.split (cellT (c, y) r) " " = [nT c, rowT y r] := by
    rw [e]
    refine TL.split_join (s := 32) (S := []) (by decide +kernel) (by decide +kernel) (by simp) fun p hp => ?_
    simp only [List.mem_cons, List.not_mem_nil, or_false] at hp
    rcases hp with rfl | rfl
    · exact nT_free (by decide)
    · exact rf
  have o : cellO [nT c, rowT y r] r = some (c, y) := by
    have nh : ∀ n : Int, (nT n == ("head" : Str)) = false := fun n => nT_word (c := 104) (r := [101, 97, 100]) (by decide +kernel) (by decide)
    have nf : ∀ n : Int, (nT n == ("foot" : Str)) = false := fun n => nT_word (c := 102) (r := [111, 111, 116]) (by decide +kernel) (by decide)
    have t1 : (("head" : Str) == ("head" : Str)) = true := by decide +kernel
    have t2 : (("foot" : Str) == ("foot" : Str)) = true := by decide +kernel
    have t3 : (("foot" : Str) == ("head" : Str)) = false := by decide +kernel
    simp only [cellO, hc]
    unfold rowT
    by_cases e1 : y = -1
    · rw [if_pos e1, t1, if_pos rfl, e1]
    · rw [if_neg e1]
      by_cases e2 : y = r
      · rw [if_pos e2, t3, t2, if_neg Bool.false_ne_true, if_pos rfl, e2]
      · rw [if_neg e2, nh, nf, if_neg Bool.false_ne_true, if_neg Bool.false_ne_true, nat_nT (n := y) (by omega) (by omega)]
        exact if_neg (by omega)
  simp only [cellR, s, o]
end K92

-- part K92Y
set_option Elab.async false
set_option maxRecDepth 100000
set_option maxHeartbeats 400000
namespace K92
open PySem L2 DL TL
/-! ### the list becomes the bag -/
def dBagIn (j : Nat) (t u : DTS) : DTS := fun D ρ => t { nx := fun ρ1 => ∃ (a1 a2 a3 : Int) (ns : List Int), ρ1[j]? = some (.own [.int a1, .int a2, .int a3, .list (ns.map .int)]) ∧ (0 ≤ a3 ∧ ns.length ≤ 1000) ∧ (∀ ρ', D.rt (.dat (.bool true)) ρ') ∧ u { nx := fun _ => False, rt := fun r _ => r = .dat (.bool true) } ((List.replicate ρ1.length .un).set j .bag), rt := fun _ _ => False } ρ
theorem repl_get {n i : Nat} {s : DL.Slot} (h : (List.replicate n DL.Slot.un)[i]? = some s) : s = .un := by
  obtain ⟨hi, e⟩ := List.getElem?_eq_some_iff.mp h
  rw [List.getElem_replicate] at e
  exact e.symm
theorem sim_bagIn {K : PySem.W.Frag} {W : WX} {j : Nat} {ut uu : TS} {t u : DTS} (h1 : SimS K W (fun _ _ _ => False) ut t) (h2 : SimS K W (fun _ _ _ => False) uu u) : SimS K W (fun _ _ _ => False) (tSeq ut uu) (dBagIn j t u) := by
  intro G ρ F σ H D DD hK hx I q k
  refine h1 G ρ F σ H _ { DD with nx := uu DD } hK hx I q ⟨fun ρ1 F1 σ1 H1 n I1 e1 => ?_, fun _ _ _ _ _ _ z => z.elim, fun _ _ _ _ z => z.elim, fun _ _ _ _ z => z.elim⟩
  obtain ⟨a1, a2, a3, ns, hj, ⟨h3, hn⟩, hrt, hu⟩ := n
  rcases I1.slot j _ hj with z | ⟨v, hv, l, vs, rfl, hFl, hGl, hHl, hr⟩
  · cases z
  obtain ⟨v1, r1, rfl, w1, hr⟩ := hr.split
  obtain ⟨v2, r2, rfl, w2, hr⟩ := hr.split
  obtain ⟨v3, r3, rfl, w3, hr⟩ := hr.split
  obtain ⟨v4, r4, rfl, w4, hr⟩ := hr.split
  have hr : r4 = [] := by simpa only [Reps] using hr
  simp only [Rep] at w1 w2 w3 w4
  subst hr; subst w1; subst w2; subst w3
  obtain ⟨c, vs, rfl, hFc, hr⟩ := w4
  have hr := hr.ints
  subst hr
  have hlen := I1.len
  have hjl : j < ρ1.length := (List.getElem?_eq_some_iff.mp hj).1
  have get : ∀ {i : Nat} {s : DL.Slot}, ((List.replicate ρ1.length DL.Slot.un).set j .bag)[i]? = some s → (i = j ∧ s = .bag) ∨ s = .un := fun {i s} h => by
    rw [List.getElem?_set] at h
    by_cases e : j = i
    · rw [if_pos e] at h
      split at h
      · cases h; exact .inl ⟨e.symm, rfl⟩
      · cases h
    · rw [if_neg e] at h; exact .inr (repl_get h)
  have I2 : StOk ⟨G.K, some l, F1, H1⟩ ((List.replicate ρ1.length DL.Slot.un).set j .bag) F1 σ1 H1 := by
    refine ⟨by rw [List.length_set, List.length_replicate]; exact hlen, fun i s h => ?_, fun i s h => ?_, fun i i' s s' l' h h' o o' _ _ => ?_, I1.ex, Same.refl F1, fun _ _ h _ => h, fun _ _ h => .inl h, fun l' e => ?_⟩
    · rcases get h with ⟨rfl, rfl⟩ | rfl
      · exact .inr ⟨_, hv, l, rfl, rfl⟩
      · exact .inl rfl
    · rcases get h with ⟨_, rfl⟩ | rfl <;> rfl
    · rcases get h with ⟨_, rfl⟩ | rfl <;> cases o
    · cases e
      exact ⟨⟨hFl, a1, a2, a3, c, ns, hHl, hFc, h3, hn⟩, _, hHl⟩
  refine h2 ⟨G.K, some l, F1, H1⟩ _ F1 σ1 H1 _ DD hK (fun _ _ _ _ _ _ _ _ z => z.elim) I2 hu ⟨fun _ _ _ _ z => z.elim, fun v r ρ2 F2 σ2 H2 er I3 R3 _ e3 => ?_, fun _ _ _ _ z => z.elim, fun _ _ _ _ z => z.elim⟩
  have er : r = .dat (.bool true) := er
  subst er
  refine k.rt v _ (List.replicate ρ2.length .un) F2 σ2 H2 (hrt _) ?_ ⟨R3.1, fun z => by cases z⟩ rfl (e1.trans e3)
  refine ⟨by rw [List.length_replicate]; exact I3.len, fun i s h => .inl (repl_get h), fun i s h => by rw [repl_get h]; rfl, fun i i' s s' l' h h' o o' _ _ => ?_, I3.ex, I1.exF.trans e3, fun l' o h hb => ?_, fun l' o h => ?_, fun l' h => ?_⟩
  · rw [repl_get h] at o; cases o
  · refine I3.keep l' o (I1.keep l' o h hb) fun z => ?_
    cases z
    rw [hGl] at h; cases h
  · rcases I3.new l' o h with z | z | z
    · exact I1.new l' o z
    · exact .inr (.inl (I1.free0 z))
    · exact .inr (.inr z)
  · obtain ⟨B, o, ho⟩ := I1.bag l' h
    obtain ⟨b0, m1, m2, m3, c', ns', hb, _⟩ := id B
    have ne : some l ≠ some l' := fun z => by
      cases z
      rw [hGl] at ho; cases ho
    have hk : H2 l' = H1 l' := by rw [hb]; exact I3.keep l' _ hb ne
    refine ⟨B.mono e3 ?_ hk, o, ho⟩
    cases z : F2 l' with
    | none => rfl
    | some o' =>
      rcases I3.new l' o' z with y | y | y
      · have y : F1 l' = some o' := y
        rw [b0] at y; cases y
      · have y : H1 l' = none := y
        rw [hb] at y; cases y
      · have y2 := I3.ex _ _ z
        rw [hk, hb] at y2
        cases y2
        cases y
theorem dss_bagIn {X : Cx} {W : WX} {j : Nat} {st : Stmt} {rest : List Stmt} {ut uu : TS} {t u : DTS} (h1 : DS X W (fun _ _ _ => False) st ut t) (h2 : DSs X W (fun _ _ _ => False) rest uu u) : DSs X W (fun _ _ _ => False) (st :: rest) (tSeq ut uu) (dBagIn j t u) := ⟨pss_cons h1.p h2.p, sim_bagIn h1.s h2.s⟩
theorem t_bagIn {j : Nat} {t u : DTS} {D : DEnds} {ρ : List DL.Slot} (h : t { nx := fun ρ1 => ∃ (a1 a2 a3 : Int) (ns : List Int), ρ1[j]? = some (.own [.int a1, .int a2, .int a3, .list (ns.map .int)]) ∧ (0 ≤ a3 ∧ ns.length ≤ 1000) ∧ (∀ ρ', D.rt (.dat (.bool true)) ρ') ∧ u { nx := fun _ => False, rt := fun r _ => r = .dat (.bool true) } ((List.replicate ρ1.length .un).set j .bag), rt := fun _ _ => False } ρ) : dBagIn j t u D ρ := h
/-! ### things that are handed to the readers -/
theorem lines_le (w : Str) : (linesI w).length ≤ w.length + 1 := by
  have := PyProof.Rows.split_le w "\n"
  unfold linesI
  rw [List.length_dropLast]; omega
def good (d : PyData) : Prop := inOk d ∧ fewL d
theorem good_len {w : Str} (h : w.length ≤ 2800) (k : PyData.strOk w = true) : good (.str w) :=
  ⟨⟨rfl, fun v e => by cases e; exact ⟨by omega, k⟩⟩, fun v e => by cases e; have := lines_le w; omega⟩
theorem good_lit {w : Str} (h : (decide (w.length ≤ 2800) && PyData.strOk w) = true) : good (.str w) := by
  rw [Bool.and_eq_true] at h
  exact good_len (of_decide_eq_true h.1) h.2
theorem good_no {d : PyData} (h : noDict d = true) (n : ∀ w, d ≠ .str w) : good d := ⟨⟨h, fun w e => absurd e (n w)⟩, fun w e => absurd e (n w)⟩
theorem rep_tl {c : Nat} (n : Nat) : tl (repStr ⟨#[c]⟩ n) = List.replicate n c := by
  show (List.replicate n [c]).flatten = _
  induction n with
  | zero => rfl
  | succ n ih => rw [List.replicate_succ, List.flatten_cons, ih, List.replicate_succ]; rfl
theorem nl_eq : ("\n" : Str) = ⟨#[10]⟩ := by decide +kernel
theorem cnt_count (c : Nat) : ∀ (l : List Nat), PyProof.Rows.cnt c l = (l.count c : Nat)
  | [] => rfl
  | a :: l => by
    rw [PyProof.Rows.cnt_cons, cnt_count c l, List.count_cons]
    by_cases h : a = c
    · rw [if_pos h, if_pos (by rw [h, beq_self_eq_true])]; omega
    · rw [if_neg h, if_neg (by simpa using h)]; omega
theorem few_split (w : Str) : (linesI w).length = (tl w).count 10 := by
  have e : ((Txt.split w "\n").length : Int) = 1 + PyProof.Rows.cnt 10 (tl w) := by rw [nl_eq]; exact PyProof.Rows.split_len w 10
  rw [cnt_count] at e
  unfold linesI
  rw [List.length_dropLast]; omega
/-- a text of many signs that are no line feeds, between two short ones -/
theorem good_rep {a b : Str} {c n : Nat} (hc : c < 0x110000) (h10 : c ≠ 10) (hn : n ≤ 5000) (ha : (decide (a.length ≤ 1000) && PyData.strOk a) = true) (hb : (decide (b.length ≤ 1000) && PyData.strOk b) = true) : good (.str (a ++ repStr ⟨#[c]⟩ n ++ b)) := by
  rw [Bool.and_eq_true] at ha hb
  have a1 := of_decide_eq_true ha.1
  have b1 := of_decide_eq_true hb.1
  have lr : (repStr ⟨#[c]⟩ n).length = n := by rw [← tl_len, rep_tl, List.length_replicate]
  have k : PyData.strOk (a ++ repStr ⟨#[c]⟩ n ++ b) = true := by
    refine cat_ok (cat_ok ha.2 ?_) hb.2
    rw [strOk_iff, rep_tl]
    intro x hx
    rw [(List.mem_replicate.mp hx).2]; exact hc
  refine ⟨⟨rfl, fun v e => ?_⟩, fun v e => ?_⟩
  · cases e
    exact ⟨by rw [cat_len, cat_len, lr]; omega, k⟩
  · cases e
    rw [few_split, tl_app, tl_app, rep_tl, List.count_append, List.count_append, List.count_replicate, if_neg (by simpa using h10)]
    have c1 := List.count_le_length (a := 10) (l := tl a)
    have c2 := List.count_le_length (a := 10) (l := tl b)
    rw [tl_len] at c1 c2
    omega
def allP : List PyData → Prop
  | [] => True
  | d :: r => good d ∧ allP r
theorem allP_app : ∀ {a b : List PyData}, allP a → allP b → allP (a ++ b)
  | [], _, _, h => h
  | _ :: _, _, h, k => ⟨h.1, allP_app h.2 k⟩
theorem allP_get : ∀ {a : List PyData} {i : Nat} {d : PyData}, allP a → a[i]? = some d → good d
  | [], _, _, _, e => by simp at e
  | x :: a, 0, d, h, e => by simp at e; rw [← e]; exact h.1
  | x :: a, i + 1, d, h, e => allP_get h.2 (by simpa using e)
theorem t_addP {a b : List PyData} {n m : Nat} {q : DL.Slot → Prop} (ha : allP a ∧ a.length ≤ n) (hb : allP b ∧ b.length ≤ m) (hz : n + m ≤ 1000) (h : ∀ L, allP L ∧ L.length ≤ n + m → q (.own L)) : oAdd (.list a) (.list b) q :=
  ⟨by have := ha.2; have := hb.2; omega, h _ ⟨allP_app ha.1 hb.1, by rw [List.length_append]; have := ha.2; have := hb.2; omega⟩⟩
theorem t_mulS {z : Str} {n : Int} {q : DL.Slot → Prop} (c : 0 ≤ n ∧ n ≤ 100000 ∧ z.length * n.toNat ≤ 1000000) (h : q (.dat (.str (repStr z n.toNat)))) : oMul (.str z) (.int n) q := ⟨c, h⟩
theorem nine_eq : ("9" : Str) = ⟨#[57]⟩ := by decide +kernel
theorem zero_eq : ("0" : Str) = ⟨#[48]⟩ := by decide +kernel
theorem empty_app (w : Str) : ("" : Str) ++ w = w := tl_inj (by rw [tl_app]; rfl)
theorem app_empty (w : Str) : w ++ ("" : Str) = w := tl_inj (by rw [tl_app, show tl ("" : Str) = [] from rfl, List.append_nil])
theorem good_r {c n : Nat} (hc : c < 0x110000) (h10 : c ≠ 10) (hn : n ≤ 5000) : good (.str (repStr ⟨#[c]⟩ n)) := by
  have := good_rep (a := "") (b := "") hc h10 hn (by decide +kernel) (by decide +kernel)
  rw [empty_app, app_empty] at this; exact this
theorem good_ar {a : Str} {c n : Nat} (hc : c < 0x110000) (h10 : c ≠ 10) (hn : n ≤ 5000) (ha : (decide (a.length ≤ 1000) && PyData.strOk a) = true) : good (.str (a ++ repStr ⟨#[c]⟩ n)) := by
  have := good_rep (b := "") hc h10 hn ha (by decide +kernel)
  rw [app_empty] at this; exact this
theorem good_rb {b : Str} {c n : Nat} (hc : c < 0x110000) (h10 : c ≠ 10) (hn : n ≤ 5000) (hb : (decide (b.length ≤ 1000) && PyData.strOk b) = true) : good (.str (repStr ⟨#[c]⟩ n ++ b)) := by
  have := good_rep (a := "") hc h10 hn (by decide +kernel) hb
  rw [empty_app] at this; exact this
theorem len9 (n : Nat) : (repStr "9" n).length = n := by rw [nine_eq, ← tl_len, rep_tl, List.length_replicate]
theorem len0 (n : Nat) : (repStr "0" n).length = n := by rw [zero_eq, ← tl_len, rep_tl, List.length_replicate]
theorem good_9 {n : Nat} (hn : n ≤ 5000) : good (.str (repStr "9" n)) := by rw [nine_eq]; exact good_r (by decide) (by decide) hn
theorem good_a9 {a : Str} {n : Nat} (hn : n ≤ 5000) (ha : (decide (a.length ≤ 1000) && PyData.strOk a) = true) : good (.str (a ++ repStr "9" n)) := by rw [nine_eq]; exact good_ar (by decide) (by decide) hn ha
theorem good_9b {b : Str} {n : Nat} (hn : n ≤ 5000) (hb : (decide (b.length ≤ 1000) && PyData.strOk b) = true) : good (.str (repStr "9" n ++ b)) := by rw [nine_eq]; exact good_rb (by decide) (by decide) hn hb
theorem good_a9b {a b : Str} {n : Nat} (hn : n ≤ 5000) (ha : (decide (a.length ≤ 1000) && PyData.strOk a) = true) (hb : (decide (b.length ≤ 1000) && PyData.strOk b) = true) : good (.str (a ++ repStr "9" n ++ b)) := by rw [nine_eq]; exact good_rep (by decide) (by decide) hn ha hb
theorem good_a0b {a b : Str} {n : Nat} (hn : n ≤ 5000) (ha : (decide (a.length ≤ 1000) && PyData.strOk a) = true) (hb : (decide (b.length ≤ 1000) && PyData.strOk b) = true) : good (.str (a ++ repStr "0" n ++ b)) := by rw [zero_eq]; exact good_rep (by decide) (by decide) hn ha hb
theorem allP_nil : allP [] := trivial
theorem allP_cons {d : PyData} {r : List PyData} (h : good d) (k : allP r) : allP (d :: r) := ⟨h, k⟩
/-! ### the text of contents is short -/
theorem cont_tl (l : CL) : tl (contT l) = joinL [] ((l.map lineT).map tl) := by unfold contT; rw [join_tl]; rfl
theorem nT_ok (n : Int) : PyData.strOk (nT n) = true := by
  rw [strOk_iff]
  intro c hc
  rcases int_sgn n with ⟨m, rfl⟩ | ⟨m, hm, rfl⟩
  · rw [tl_pos] at hc
    have := numL_digits m c hc
    omega
  · rw [tl_neg hm] at hc
    rcases List.mem_cons.mp hc with rfl | hc
    · decide
    · have := numL_digits m c hc
      omega
theorem line_ok (x : (Int × Int) × Int) : PyData.strOk (lineT x) = true := by
  have e1 : PyData.strOk (" " : Str) = true := by decide +kernel
  have e2 : PyData.strOk ("\n" : Str) = true := by decide +kernel
  have e3 : PyData.strOk Str.empty = true := by decide +kernel
  have e4 : PyData.strOk (rowH x.1.2) = true := by
    unfold rowH
    split
    · decide +kernel
    · exact nT_ok _
  unfold lineT bodyT
  exact cat_ok (cat_ok (cat_ok (cat_ok (cat_ok (cat_ok e3 (nT_ok _)) e1) e4) e1) (nT_ok _)) e2
theorem cont_ok (l : CL) : PyData.strOk (contT l) = true := by
  rw [strOk_iff, cont_tl]
  refine joinL_ok (fun c hc => by cases hc) fun x hx => ?_
  obtain ⟨y, hy, rfl⟩ := List.mem_map.mp hx
  obtain ⟨z, _, rfl⟩ := List.mem_map.mp hy
  exact (strOk_iff _).mp (line_ok z)
theorem cont_len {l : CL} (h : CLok l) : (contT l).length ≤ 300 := by
  rw [← tl_len, cont_tl]
  cases l with
  | nil => exact Nat.zero_le _
  | cons a l =>
    have := joinL_len [] (((a :: l).map lineT).map tl) (by simp)
    rw [lens_tl] at this
    have s : (((a :: l).map lineT).map (·.length)).sum ≤ (((a :: l).map lineT).map (·.length)).length * 50 := sum_le fun x hx => by
      obtain ⟨z, hz, rfl⟩ := List.mem_map.mp hx
      obtain ⟨u, hu, rfl⟩ := List.mem_map.mp hz
      exact line_len (h.rg u hu)
    have h6 := h.len
    unfold sumL at this
    simp only [List.length_map, List.length_nil, Nat.mul_zero, Nat.add_zero] at this s
    omega
theorem kvC_len {l : CL} (h : CLok l) : (kvC l).length ≤ 100000 := by have := h.len; unfold kvC; rw [List.length_map]; omega
theorem cell_len {c y r : Int} (h1 : c.natAbs < 10 ^ 13) (h2 : y.natAbs < 10 ^ 13) : (cellT (c, y) r).length ≤ 40 := by
  have l1 := nT_le h1
  have l2 : (rowT y r).length ≤ 14 := by
    unfold rowT
    split
    · decide +kernel
    · split
      · decide +kernel
      · exact nT_le h2
  unfold cellT
  simp only [cat_len]
  have a1 : (" " : Str).length = 1 := by decide +kernel
  have a3 : Str.empty.length = 0 := by decide +kernel
  omega
theorem cell_ok (c y r : Int) : PyData.strOk (cellT (c, y) r) = true := by
  have e1 : PyData.strOk (" " : Str) = true := by decide +kernel
  have e3 : PyData.strOk Str.empty = true := by decide +kernel
  have e4 : PyData.strOk (rowT y r) = true := by
    unfold rowT
    split
    · decide +kernel
    · split
      · decide +kernel
      · exact nT_ok _
  unfold cellT
  exact cat_ok (cat_ok (cat_ok e3 (nT_ok _)) e1) e4
end K92

-- part K92X
set_option Elab.async false
set_option maxRecDepth 100000
set_option maxHeartbeats 8000000
namespace K92
open PySem L2 DL
theorem t_seqC {t u : DTS} {D : DEnds} {ρ : List DL.Slot} {I : List DL.Slot → Prop} (h : ∀ U : DTS, (∀ ρ', I ρ' → U D ρ') → t { D with nx := U D } ρ) (k : ∀ ρ', I ρ' → u D ρ') : dSeq t u D ρ := h u k
abbrev con_law (K : PySem.W.Frag) (ns : List Int) : Con := fun ss q _ => ss = [scrS K ns] ∧ q (.dat (.bool true))
section
variable {P : Program} {w : World} {K : PySem.W.Frag} {mg : Str → Option Value} {base : Heap}
abbrev s_law : Stmt := top 36
abbrev n_law : List Str := ["_law_script", "_law_bag_here", "_law_turn", "_law_contents", "_law_rows", "_law_text", "_law_found", "_law_k", "_law_thing", "_law_again", "_law_address", "_law_cell", "_law_odd"]
abbrev p_law : List Str := ["_law_script"]
theorem sc_law : FnScope n_law p_law (defScope s_law) := ⟨rfl, rfl, rfl, by decide +kernel, rfl, by decide +kernel, by decide +kernel⟩
theorem ok_law {f : Addr} {fd : FuncData} (F : Fun K "law" "law" s_law f fd) (T : Txt mg) {C C2 C3 : Addr} {ns : List Int} (c_read_contents : Cal P w K mg base (L2.CX P w) 6 "read_contents" p_read_contents (con_read_contents C)) (c_read_cell : Cal P w K mg base (L2.CX P w) 6 "read_cell" p_read_cell (con_read_cell C)) (c_show_contents : Cal P w K mg base CX0 4 "show_contents" p_show_contents con_show_contents) (c_show_cell : Cal P w K mg base CX0 2 "show_cell" p_show_cell con_show_cell) (c__law_take : Cal P w K mg base CX0 4 "_law_take" p__law_take conTake) (c__law_drawn : Cal P w K mg base CX0 6 "_law_drawn" p__law_drawn con__law_drawn) (c__law_bag : Cal P w K mg base CX0 5 "_law_bag" p__law_bag (con__law_bag K ns)) (c__law_spoilt_text : Cal P w K mg base CX0 6 "_law_spoilt_text" p__law_spoilt_text con__law_spoilt_text) (c__law_noted_contents : Cal P w K mg base CX0 7 "_law_noted_contents" p__law_noted_contents con__law_noted_contents) (c__law_contents_due : Cal P w K mg base CX0 7 "_law_contents_due" p__law_contents_due con__law_contents_due) (c__law_cell_due : Cal P w K mg base CX0 6 "_law_cell_due" p__law_cell_due con__law_cell_due) (c__law_cell_heard : Cal P w K mg base CX0 7 "_law_cell_heard" p__law_cell_heard con__law_cell_heard) (c__law_alike : CalG P w K mg base 4 "_law_alike" p__law_alike con__law_alike) : FnG P w K mg base (7 + 1) f fd p_law (spOf K p_law.length (con_law K ns)) := by
  refine fn_okG F sc_law fun cdv A outer s H gu hr => ?_
  have nd := sc_law.nd
  refine ⟨_, _, (dss_bagIn (j := 1) (ds_set (i := 1) nd (de_fc c__law_bag (hr.mono (by decide)) (da_cons (de_var 0) da_nil))) (dss_cons (ds_for PassesOwn.never rfl (di_rng1 (da_cons de_int da_nil) T.b_range) (dg_name (i := 2) nd) (dss_cons (ds_par2 (i := 3) (j := 4) rfl nd (db_cons (de_fc c__law_drawn (hr.mono (by decide)) (da_cons (de_var 1) da_nil)) (db_cons (de_fc c__law_take (hr.mono (by decide)) (da_cons (de_var 1) (da_cons de_int da_nil))) db_nil)) (by rfl)) (dss_cons (ds_set (i := 5) nd (de_fc c_show_contents (hr.mono (by decide)) (da_cons (de_var 3) da_nil))) (dss_cons (ds_if (dc_not (dc_val (de_fcG c__law_alike (hr.mono (by decide)) gu (da_cons (de_fcL c_read_contents (hr.mono (by decide)) (da_cons (de_var 5) da_nil)) (da_cons (de_callTy (cr_dictT rfl hr.units) cd_dictT (by rfl) T.b_dict (by kernel_rfl) (da_cons (de_sortI rfl hr.units (de_var 3) T.b_sorted) da_nil)) da_nil))))) (dss_one (ds_ret de_bl)) dss_nil) (dss_cons (ds_set (i := 6) nd (de_fcL c_read_contents (hr.mono (by decide)) (da_cons (de_var 5) da_nil))) (dss_cons (ds_clrT (i := 6)) (dss_cons (ds_putT (i := 6) (units1 hr) (de_tup (da_cons de_int (da_cons de_int da_nil))) de_int) (dss_cons (ds_if (dc_not (dc_val (de_fcG c__law_alike (hr.mono (by decide)) gu (da_cons (de_fcL c_read_contents (hr.mono (by decide)) (da_cons (de_var 5) da_nil)) (da_cons (de_callTy (cr_dictT rfl hr.units) cd_dictT (by rfl) T.b_dict (by kernel_rfl) (da_cons (de_sortI rfl hr.units (de_var 3) T.b_sorted) da_nil)) da_nil))))) (dss_one (ds_ret de_bl)) dss_nil) (dss_one (ds_for PassesOwn.never rfl (di_rng1 (da_cons de_int da_nil) T.b_range) (dg_name (i := 7) nd) (dss_cons (ds_set (i := 8) nd (de_fc c__law_spoilt_text (hr.mono (by decide)) (da_cons (de_var 1) (da_cons (de_var 5) da_nil)))) (dss_cons (ds_for PassesOwn.never rfl (di_rng1 (da_cons (de_fc c__law_take (hr.mono (by decide)) (da_cons (de_var 1) (da_cons de_int da_nil))) da_nil) T.b_range) (dg_name (i := 9) nd) (dss_one (ds_set (i := 8) nd (de_fc c__law_spoilt_text (hr.mono (by decide)) (da_cons (de_var 1) (da_cons (de_var 8) da_nil)))))) (dss_cons (ds_if (dc_not (dc_val (de_fcG c__law_alike (hr.mono (by decide)) gu (da_cons (de_fc c__law_noted_contents (hr.mono (by decide)) (da_cons (de_var 8) da_nil)) (da_cons (de_fc c__law_contents_due (hr.mono (by decide)) (da_cons (de_var 8) da_nil)) da_nil))))) (dss_one (ds_ret de_bl)) dss_nil) (dss_cons (ds_set (i := 10) nd (de_tup (da_cons (de_fc c__law_take (hr.mono (by decide)) (da_cons (de_var 1) (da_cons de_int da_nil))) (da_cons (de_bin op_sub od_sub (de_fc c__law_take (hr.mono (by decide)) (da_cons (de_var 1) (da_cons (de_bin op_addA od_add (de_var 4) de_int) da_nil))) de_int) da_nil)))) (dss_cons (ds_set (i := 11) nd (de_fc c_show_cell (hr.mono (by decide)) (da_cons (de_var 10) (da_cons (de_var 4) da_nil)))) (dss_cons (ds_if (dc_not (dc_val (de_fcG c__law_alike (hr.mono (by decide)) gu (da_cons (de_fcL c_read_cell (hr.mono (by decide)) (da_cons (de_var 11) (da_cons (de_var 4) da_nil))) (da_cons (de_var 10) da_nil))))) (dss_one (ds_ret de_bl)) dss_nil) (dss_cons (ds_set (i := 8) nd (de_fc c__law_spoilt_text (hr.mono (by decide)) (da_cons (de_var 1) (da_cons (de_var 11) da_nil)))) (dss_one (ds_if (dc_not (dc_val (de_fcG c__law_alike (hr.mono (by decide)) gu (da_cons (de_fc c__law_cell_heard (hr.mono (by decide)) (da_cons (de_var 8) (da_cons (de_var 4) da_nil))) (da_cons (de_fc c__law_cell_due (hr.mono (by decide)) (da_cons (de_var 8) (da_cons (de_var 4) da_nil))) da_nil))))) (dss_one (ds_ret de_bl)) dss_nil))))))))))))))))))) (dss_cons (ds_set (i := 12) nd (de_lst (da_cons de_non (da_cons de_int (da_cons (de_lst da_nil) (da_cons de_str (da_cons de_str (da_cons de_str (da_cons de_str (da_cons de_str (da_cons de_str (da_cons de_str da_nil)))))))))))) (dss_cons (ds_set (i := 12) nd (de_bin op_addA od_add (de_var 12) (de_lst (da_cons de_str (da_cons de_str (da_cons de_str (da_cons de_str (da_cons de_str (da_cons (de_bin op_mulA od_mul de_str de_int) (da_cons de_str da_nil)))))))))) (dss_cons (ds_set (i := 12) nd (de_bin op_addA od_add (de_var 12) (de_lst (da_cons (de_bin op_addA od_add (de_bin op_addA od_add de_str (de_bin op_mulA od_mul de_str de_int)) de_str) (da_cons (de_bin op_addA od_add (de_bin op_mulA od_mul de_str de_int) de_str) (da_cons (de_bin op_addA od_add de_str (de_bin op_mulA od_mul de_str de_int)) (da_cons (de_bin op_addA od_add (de_bin op_mulA od_mul de_str de_int) de_str) (da_cons de_str da_nil)))))))) (dss_cons (ds_set (i := 12) nd (de_bin op_addA od_add (de_var 12) (de_lst (da_cons (de_bin op_addA od_add (de_bin op_mulA od_mul de_str de_int) de_str) (da_cons (de_bin op_addA od_add (de_bin op_addA od_add de_str (de_bin op_mulA od_mul de_str de_int)) de_str) (da_cons (de_bin op_addA od_add (de_bin op_mulA od_mul de_str de_int) de_str) (da_cons (de_bin op_addA od_add (de_bin op_addA od_add de_str (de_bin op_mulA od_mul de_str de_int)) de_str) da_nil))))))) (dss_cons (ds_set (i := 12) nd (de_bin op_addA od_add (de_var 12) (de_lst (da_cons de_str (da_cons de_str (da_cons de_str (da_cons de_str (da_cons de_str (da_cons de_str (da_cons de_str da_nil)))))))))) (dss_cons (ds_for PassesOwn.never rfl (di_seq (de_bin op_addA od_add (de_var 12) (de_lst (da_cons de_str (da_cons de_str (da_cons de_str (da_cons (de_bin op_addA od_add (de_bin op_addA od_add de_str (de_bin op_mulA od_mul de_str de_int)) de_str) (da_cons de_str da_nil)))))))) (dg_name (i := 8) nd) (dss_cons (ds_if (dc_not (dc_val (de_fcG c__law_alike (hr.mono (by decide)) gu (da_cons (de_fc c__law_noted_contents (hr.mono (by decide)) (da_cons (de_var 8) da_nil)) (da_cons (de_fc c__law_contents_due (hr.mono (by decide)) (da_cons (de_var 8) da_nil)) da_nil))))) (dss_one (ds_ret de_bl)) dss_nil) (dss_one (ds_if (dc_not (dc_val (de_fcG c__law_alike (hr.mono (by decide)) gu (da_cons (de_fc c__law_cell_heard (hr.mono (by decide)) (da_cons (de_var 8) (da_cons de_int da_nil))) (da_cons (de_fc c__law_cell_due (hr.mono (by decide)) (da_cons (de_var 8) (da_cons de_int da_nil))) da_nil))))) (dss_one (ds_ret de_bl)) dss_nil)))) (dss_one (ds_ret de_bl)))))))))), ?_⟩
  rintro ss q y hl ⟨rfl, hq⟩
  refine t_bagIn ?_
  walk_at "drive"
  refine ⟨rfl, rfl, fun ms hms => ?_⟩
  walk_at "drive"
  refine ⟨0, 1234567891, 0, ms, rfl, ⟨by decide, by omega⟩, fun _ => hq, ?_⟩
  clear hq
  refine t_seqC (I := fun ρ' => ∃ s2 s3 s4 s5 s6 s7 s8 s9 s10 s11 s12, ρ' = [.un, .bag, s2, s3, s4, s5, s6, s7, s8, s9, s10, s11, s12]) (fun U hU => ?_) (fun ρ' iv => ?_)
  · refine t_for ?_
    walk_at "drive"
    refine ⟨by decide, ?_⟩
    refine ⟨fun i ρ' => ∃ s2 s3 s4 s5 s6 s7 s8 s9 s10 s11 s12, ρ' = [.un, .bag, s2, s3, s4, s5, s6, s7, s8, s9, s10, s11, s12], ⟨_, _, _, _, _, _, _, _, _, _, _, rfl⟩, fun i d ρ' hd iv => ?_, fun ρ' iv => hU ρ' iv⟩
    obtain ⟨s2, s3, s4, s5, s6, s7, s8, s9, s10, s11, s12, rfl⟩ := iv
    walk_at "drive"
    refine ⟨rfl, rfl, fun l ok => ?_⟩
    walk_at "drive"
    refine ⟨rfl, _, rfl, by decide, fun r hr1 hr2 => ?_⟩
    walk_at "drive"
    refine ⟨rfl, ?_⟩
    walk_at "drive"
    refine ⟨rfl, l, rfl, ok, ?_⟩
    have inC : inOk (.str (contT (sortC l))) := ⟨rfl, fun v e => by cases e; exact ⟨Nat.le_trans (cont_len ok.sort) (by decide), cont_ok _⟩⟩
    have back := cont_back ok
    have clen := cont_len ok.sort
    have cok := cont_ok (sortC l)
    generalize contT (sortC l) = W at inC back clen cok ⊢
    walk_at "drive"
    refine ⟨rfl, _, rfl, inC, ?_⟩
    rw [back]
    walk_at "drive"
    refine t_withKT _ (kvsT_dT _) ⟨sortOk_items ok.len, ?_⟩
    rw [sorted_items ok]
    walk_at "drive"
    refine t_dictT ⟨kvC_nd ok.sort, kvC_len ok.sort⟩ ?_
    walk_at "drive"
    refine ⟨rfl, _, rfl, repr_kvC ok.sort, ?_⟩
    walk_at "drive"
    refine ⟨rfl, _, rfl, inC, ?_⟩
    rw [back]
    walk_at "drivz"
    refine ⟨by have := kvC_len ok.sort; show ([] : KV).length < 100000; decide, ?_⟩
    walk_at "drive"
    refine ⟨rfl, _, rfl, inC, ?_⟩
    rw [back]
    walk_at "drive"
    refine t_withKT _ (kvsT_dT _) ⟨sortOk_items ok.len, ?_⟩
    rw [sorted_items ok]
    walk_at "drive"
    refine t_dictT ⟨kvC_nd ok.sort, kvC_len ok.sort⟩ ?_
    walk_at "drive"
    refine ⟨rfl, _, rfl, repr_kvC ok.sort, ?_⟩
    walk_at "drive"
    dsimp only
    refine t_for ?_
    walk_at "drive"
    refine ⟨by decide, ?_⟩
    refine ⟨fun i ρ' => ∃ s2 s6 s7 s8 s9 s10 s11 s12, ρ' = [.un, .bag, s2, .dat (dT (kvC l)), .dat (.int r), .dat (.str W), s6, s7, s8, s9, s10, s11, s12], ⟨_, _, _, _, _, _, _, _, rfl⟩, fun i d ρ' hd iv => ?_, fun ρ' iv => ?_⟩
    · obtain ⟨s2, s6, s7, s8, s9, s10, s11, s12, rfl⟩ := iv
      walk_at "drive"
      refine ⟨rfl, W, rfl, ⟨by omega, cok⟩, fun v hv hvk => ?_⟩
      dsimp only
      refine t_seqC (I := fun ρ' => ∃ v s2 s6 s7 s9 s10 s11 s12, ρ' = [.un, .bag, s2, .dat (dT (kvC l)), .dat (.int r), .dat (.str W), s6, s7, .dat (.str v), s9, s10, s11, s12] ∧ v.length ≤ 2740 ∧ PyData.strOk v = true) (fun U2 hU2 => ?_) (fun ρ' iv => ?_)
      · refine t_for ?_
        walk_at "drive"
        refine ⟨rfl, _, rfl, by decide, fun n hn1 hn2 => ?_⟩
        refine ⟨n, rfl, ⟨by omega, by omega⟩, ?_⟩
        refine ⟨fun i ρ' => ∃ v s2 s6 s7 s9 s10 s11 s12, ρ' = [.un, .bag, s2, .dat (dT (kvC l)), .dat (.int r), .dat (.str W), s6, s7, .dat (.str v), s9, s10, s11, s12] ∧ (i = 0 → v.length ≤ 910) ∧ v.length ≤ 2740 ∧ PyData.strOk v = true, ⟨v, _, _, _, _, _, _, _, rfl, fun _ => by omega, by omega, hvk⟩, fun i d ρ' hd iv => ?_, fun ρ' iv => ?_⟩
        · obtain ⟨v, s2, s6, s7, s9, s10, s11, s12, rfl, h0, h1, hk⟩ := iv
          obtain ⟨hi, rfl⟩ := ups_get hd
          have h0 := h0 (by omega)
          walk_at "drive"
          refine ⟨rfl, v, rfl, ⟨by omega, hk⟩, fun u hu huk => ?_⟩
          walk_at "drive"
          exact ⟨u, _, _, _, _, _, _, _, rfl, fun h => by omega, by omega, huk⟩
        · obtain ⟨v, s2, s6, s7, s9, s10, s11, s12, rfl, _, h1, hk⟩ := iv
          exact hU2 _ ⟨v, _, _, _, _, _, _, _, rfl, h1, hk⟩
      · obtain ⟨v, s2, s6, s7, s9, s10, s11, s12, rfl, h1, hk⟩ := iv
        have gv : good (.str v) := good_len (by omega) hk
        walk_at "drive"
        refine ⟨rfl, _, rfl, gv.1, ?_⟩
        walk_at "drive"
        refine ⟨rfl, _, rfl, gv.1, ?_⟩
        walk_at "drive"
        refine ⟨rfl, _, rfl, repr_cont gv.2, ?_⟩
        walk_at "drive"
        refine ⟨rfl, _, rfl, by decide, fun c hc1 hc2 => ?_⟩
        walk_at "drive"
        refine ⟨rfl, _, rfl, ⟨by omega, by omega⟩, fun y hy1 hy2 => ?_⟩
        walk_at "drivy"
        refine ⟨(c, y - 1), r, rfl, ⟨hc1, by simp only; omega, by simp only; omega, by simp only; omega⟩, ?_⟩
        have cb := cell_back (c := c) (y := y - 1) (r := r) ⟨by omega, by omega, by omega⟩
        have cl := cell_len (c := c) (y := y - 1) (r := r) (by omega) (by omega)
        have ck := cell_ok c (y - 1) r
        generalize cellT (c, y - 1) r = Z at cb cl ck ⊢
        walk_at "drive"
        refine ⟨rfl, _, r, rfl, ⟨rfl, fun w e => by cases e; omega⟩, ?_⟩
        rw [cb]
        walk_at "drive"
        refine ⟨rfl, _, rfl, repr_pair (p := (c, y - 1)) (small_le hc1 (by omega)) (by show small (y - 1); unfold small; omega), ?_⟩
        walk_at "drive"
        refine ⟨rfl, Z, rfl, ⟨by omega, ck⟩, fun u hu huk => ?_⟩
        have gu : good (.str u) := good_len (by omega) huk
        have sr : small r := small_le hr1 (by omega)
        walk_at "drive"
        refine ⟨rfl, _, r, rfl, gu.1, ?_⟩
        walk_at "drive"
        refine ⟨rfl, _, r, rfl, gu.1, ?_⟩
        walk_at "drive"
        refine ⟨rfl, _, rfl, repr_cell sr, ?_⟩
        walk_at "drive"
        exact ⟨_, _, _, _, _, _, _, _, rfl⟩
    · obtain ⟨s2, s6, s7, s8, s9, s10, s11, s12, rfl⟩ := iv
      exact ⟨_, _, _, _, _, _, _, _, _, _, _, rfl⟩
  · obtain ⟨s2, s3, s4, s5, s6, s7, s8, s9, s10, s11, s12, rfl⟩ := iv
    repeat (walk_at "drive"; first | refine t_mulS (by decide +kernel) ?_ | refine t_addS (by simp only [cat_len, len9, len0]; decide +kernel) ?_)
    walk_at "drive"
    refine t_addP (n := 10) (m := 7) ⟨by (repeat (first | exact allP_nil | ((with_reducible apply allP_cons); first | ((with_reducible apply good_9); decide) | ((with_reducible apply good_a9b) <;> decide +kernel) | ((with_reducible apply good_a0b) <;> decide +kernel) | ((with_reducible apply good_a9) <;> decide +kernel) | ((with_reducible apply good_9b) <;> decide +kernel) | exact good_lit (by decide +kernel) | exact good_no rfl (fun w h => nomatch h)))), by decide⟩ ⟨by (repeat (first | exact allP_nil | ((with_reducible apply allP_cons); first | ((with_reducible apply good_9); decide) | ((with_reducible apply good_a9b) <;> decide +kernel) | ((with_reducible apply good_a0b) <;> decide +kernel) | ((with_reducible apply good_a9) <;> decide +kernel) | ((with_reducible apply good_9b) <;> decide +kernel) | exact good_lit (by decide +kernel) | exact good_no rfl (fun w h => nomatch h)))), by decide⟩ (by decide) fun L1 h1 => ?_
    repeat (walk_at "drive"; first | refine t_mulS (by decide +kernel) ?_ | refine t_addS (by simp only [cat_len, len9, len0]; decide +kernel) ?_)
    walk_at "drive"
    refine t_addP (n := 17) (m := 5) h1 ⟨by (repeat (first | exact allP_nil | ((with_reducible apply allP_cons); first | ((with_reducible apply good_9); decide) | ((with_reducible apply good_a9b) <;> decide +kernel) | ((with_reducible apply good_a0b) <;> decide +kernel) | ((with_reducible apply good_a9) <;> decide +kernel) | ((with_reducible apply good_9b) <;> decide +kernel) | exact good_lit (by decide +kernel) | exact good_no rfl (fun w h => nomatch h)))), by decide⟩ (by decide) fun L2 h2 => ?_
    repeat (walk_at "drive"; first | refine t_mulS (by decide +kernel) ?_ | refine t_addS (by simp only [cat_len, len9, len0]; decide +kernel) ?_)
    walk_at "drive"
    refine t_addP (n := 22) (m := 4) h2 ⟨by (repeat (first | exact allP_nil | ((with_reducible apply allP_cons); first | ((with_reducible apply good_9); decide) | ((with_reducible apply good_a9b) <;> decide +kernel) | ((with_reducible apply good_a0b) <;> decide +kernel) | ((with_reducible apply good_a9) <;> decide +kernel) | ((with_reducible apply good_9b) <;> decide +kernel) | exact good_lit (by decide +kernel) | exact good_no rfl (fun w h => nomatch h)))), by decide⟩ (by decide) fun L3 h3 => ?_
    repeat (walk_at "drive"; first | refine t_mulS (by decide +kernel) ?_ | refine t_addS (by simp only [cat_len, len9, len0]; decide +kernel) ?_)
    walk_at "drive"
    refine t_addP (n := 26) (m := 7) h3 ⟨by (repeat (first | exact allP_nil | ((with_reducible apply allP_cons); first | ((with_reducible apply good_9); decide) | ((with_reducible apply good_a9b) <;> decide +kernel) | ((with_reducible apply good_a0b) <;> decide +kernel) | ((with_reducible apply good_a9) <;> decide +kernel) | ((with_reducible apply good_9b) <;> decide +kernel) | exact good_lit (by decide +kernel) | exact good_no rfl (fun w h => nomatch h)))), by decide⟩ (by decide) fun L4 h4 => ?_
    walk_at "drive"
    refine t_for ?_
    refine t_dseq ?_
    repeat (walk_at "drive"; first | refine t_mulS (by decide +kernel) ?_ | refine t_addS (by simp only [cat_len, len9, len0]; decide +kernel) ?_)
    walk_at "drive"
    refine t_addP (n := 33) (m := 5) h4 ⟨by (repeat (first | exact allP_nil | ((with_reducible apply allP_cons); first | ((with_reducible apply good_9); decide) | ((with_reducible apply good_a9b) <;> decide +kernel) | ((with_reducible apply good_a0b) <;> decide +kernel) | ((with_reducible apply good_a9) <;> decide +kernel) | ((with_reducible apply good_9b) <;> decide +kernel) | exact good_lit (by decide +kernel) | exact good_no rfl (fun w h => nomatch h)))), by decide⟩ (by decide) fun L h5 => ?_
    walk_at "drive"
    refine ⟨fun i ρ' => ∃ s2 s3 s4 s5 s6 s7 s8 s9 s10 s11 s12, ρ' = [.un, .bag, s2, s3, s4, s5, s6, s7, s8, s9, s10, s11, s12], ⟨_, _, _, _, _, _, _, _, _, _, _, rfl⟩, fun i d ρ' hd iv => ?_, fun ρ' iv => ?_⟩
    · obtain ⟨s2, s3, s4, s5, s6, s7, s8, s9, s10, s11, s12, rfl⟩ := iv
      have g := allP_get h5.1 hd
      have sr : small 3 := small_le (by decide) (by decide)
      walk_at "drive"
      refine ⟨rfl, _, rfl, g.1, ?_⟩
      walk_at "drive"
      refine ⟨rfl, _, rfl, g.1, ?_⟩
      walk_at "drive"
      refine ⟨rfl, _, rfl, repr_cont g.2, ?_⟩
      walk_at "drive"
      refine ⟨rfl, _, 3, rfl, g.1, ?_⟩
      walk_at "drive"
      refine ⟨rfl, _, 3, rfl, g.1, ?_⟩
      walk_at "drive"
      refine ⟨rfl, _, rfl, repr_cell sr, ?_⟩
      walk_at "drive"
      exact ⟨_, _, _, _, _, _, _, _, _, _, _, rfl⟩
    · obtain ⟨s2, s3, s4, s5, s6, s7, s8, s9, s10, s11, s12, rfl⟩ := iv
      walk_at "drive"
      rfl
end
end K92

-- part K92Z
set_option Elab.async false
set_option maxRecDepth 100000
set_option maxHeartbeats 4000000
namespace K92
open PySem L2 DL
def clsBody : Stmt → List Stmt
  | .ClassDef (body := b) .. => b
  | _ => []
abbrev sInit : Stmt := (clsBody (top 2)).getD 0 (.Pass ⟨0, 0, 0, 0⟩)
theorem sc_init : FnScope ["self", "line"] ["self", "line"] (defScope sInit) := ⟨rfl, rfl, rfl, by decide +kernel, rfl, by decide +kernel, by decide +kernel⟩
theorem exm_mk {K : PySem.W.Frag} {C D : Addr} (e : PySem.W.subIn K (.ref D) (.type "BaseException") = some true) (i : PySem.W.isClsIn K D = true) (t : PySem.W.typeIn K (.ref D) = some (.type "type")) (s : PySem.W.subIn K (.ref C) (.ref D) = some true) : PySem.W.exmOne K (.ref C) (.ref D) = some true := by
  have i : (PySem.W.clsIn K D).isSome = true := i
  unfold PySem.W.exmOne PySem.W.kitCls
  simp only [e, i, t, s, beq_self_eq_true, Bool.and_self, if_true]
theorem kit_self (K : PySem.W.Frag) (C : Addr) : PySem.W.kitOne K (.ref C) (.ref C) = some true := by
  unfold PySem.W.kitOne
  exact if_pos (beq_self_eq_true _)
theorem kit_no {K : PySem.W.Frag} {C D : Addr} (n : (Value.ref C == Value.ref D) = false) (i : PySem.W.isClsIn K D = true) (t : PySem.W.typeIn K (.ref D) = some (.type "type")) (s : PySem.W.subIn K (.ref C) (.ref D) = some false) : PySem.W.kitOne K (.ref C) (.ref D) = some false := by
  have i : (PySem.W.clsIn K D).isSome = true := i
  unfold PySem.W.kitOne PySem.W.kitCls
  simp only [n, i, t, s, beq_self_eq_true, Bool.and_self, if_true, Bool.false_eq_true, if_false]
def spL (K : PySem.W.Frag) : Sp := fun vs H Q E => ∃ ns : List Int, spOf K 1 (con_law K ns) vs H Q E
theorem fng_ex {P : Program} {w : World} {K : PySem.W.Frag} {mg : Str → Option Value} {base : Heap} {k : Nat} {f : Addr} {fd : FuncData} (h : ∀ ns : List Int, FnG P w K mg base k f fd ["_law_script"] (spOf K 1 (con_law K ns))) : FnG P w K mg base k f fd ["_law_script"] (spL K) :=
  ⟨fun vs H Q E ⟨ns, z⟩ => (h ns).len vs H Q E z, fun A out s H ar us vs Q E gu hr en b v ⟨ns, z⟩ => (h ns).go A out s H ar us vs Q E gu hr en b v z⟩
theorem wish {K : PySem.W.Frag} (H : Hp) (a : Addr) (ns : List Int) (hS : SqL K H a (ns.map V.int)) : spL K [.ref a] H (fun v _ => v = .bl true) fun _ _ _ => False := by
  refine ⟨ns, rfl, none, H, [scrS K ns], fun r => r = .dat (.bool true), fun _ _ => False, Same.refl H, fun _ z => (by cases z), ⟨⟨.ref a, [], rfl, rfl, fun F' e => ⟨a, rfl, same_l e hS⟩, rfl⟩, fun s hs => ?_⟩, ⟨rfl, rfl⟩, fun v r F' H' er _ R _ => ?_, fun _ _ _ _ _ _ z => z.elim⟩
  · rw [List.mem_singleton.mp hs]; rfl
  · subst er
    have R : Rep _ _ _ _ := R
    simpa only [Rep] using R
theorem all_mk {P : Program} {w : World} {K : PySem.W.Frag} {h : Heap} {mg : Str → Option Value} {fa fI C C2 C3 f_is_integer f_is_number f_read_integer f_read_natural f_lines_of f_content_in f_read_contents f_cell_in f_read_cell f_show_contents f_show_cell f__law_bag f__law_take f__law_alike f__law_mixed f__law_one f__law_spoilt_text f__law_noted_contents f__law_whole f__law_place f__law_contents_due f__law_cell_due f__law_cell_heard f__law_drawn f_law : Addr} (X : K.In h) (G : h.Ns mainGlobals mg) (hfa : mg "law" = some (.ref fa)) (gFAR : ∃ u, mg "FAR" = some u ∧ RelV (.int (10 ^ 12)) u)
    {nm q : Str} {NA : Addr} {bs bm : List Value} {sn : List Str} {sub : List Value} {ab : Bool} {col : Option Bool} {dd : Option Addr} {m0 m1 m2 m3 m5 : Option Value} {tD tM : Tok}
    {od_is_integer an_is_integer od_is_number an_is_number od_read_integer an_read_integer od_read_natural an_read_natural od_lines_of an_lines_of od_content_in an_content_in od_read_contents an_read_contents od_cell_in an_cell_in od_read_cell an_read_cell od_show_contents an_show_contents od_show_cell an_show_cell od__law_bag an__law_bag od__law_take an__law_take od__law_alike an__law_alike od__law_mixed an__law_mixed od__law_one an__law_one od__law_spoilt_text an__law_spoilt_text od__law_noted_contents an__law_noted_contents od__law_whole an__law_whole od__law_place an__law_place od__law_contents_due an__law_contents_due od__law_cell_due an__law_cell_due od__law_cell_heard an__law_cell_heard od__law_drawn an__law_drawn od_law an_law od_I an_I : Option Addr} {sl_is_integer sl_is_number sl_read_integer sl_read_natural sl_lines_of sl_content_in sl_read_contents sl_cell_in sl_read_cell sl_show_contents sl_show_cell sl__law_bag sl__law_take sl__law_alike sl__law_mixed sl__law_one sl__law_spoilt_text sl__law_noted_contents sl__law_whole sl__law_place sl__law_contents_due sl__law_cell_due sl__law_cell_heard sl__law_drawn sl_law sl_I : Array (Option Value)} {oc_is_integer kV_is_integer dc_is_integer pm_is_integer cd_is_integer ct_is_integer oc_is_number kV_is_number dc_is_number pm_is_number cd_is_number ct_is_number oc_read_integer kV_read_integer dc_read_integer pm_read_integer cd_read_integer ct_read_integer oc_read_natural kV_read_natural dc_read_natural pm_read_natural cd_read_natural ct_read_natural oc_lines_of kV_lines_of dc_lines_of pm_lines_of cd_lines_of ct_lines_of oc_content_in kV_content_in dc_content_in pm_content_in cd_content_in ct_content_in oc_read_contents kV_read_contents dc_read_contents pm_read_contents cd_read_contents ct_read_contents oc_cell_in kV_cell_in dc_cell_in pm_cell_in cd_cell_in ct_cell_in oc_read_cell kV_read_cell dc_read_cell pm_read_cell cd_read_cell ct_read_cell oc_show_contents kV_show_contents dc_show_contents pm_show_contents cd_show_contents ct_show_contents oc_show_cell kV_show_cell dc_show_cell pm_show_cell cd_show_cell ct_show_cell oc__law_bag kV__law_bag dc__law_bag pm__law_bag cd__law_bag ct__law_bag oc__law_take kV__law_take dc__law_take pm__law_take cd__law_take ct__law_take oc__law_alike kV__law_alike dc__law_alike pm__law_alike cd__law_alike ct__law_alike oc__law_mixed kV__law_mixed dc__law_mixed pm__law_mixed cd__law_mixed ct__law_mixed oc__law_one kV__law_one dc__law_one pm__law_one cd__law_one ct__law_one oc__law_spoilt_text kV__law_spoilt_text dc__law_spoilt_text pm__law_spoilt_text cd__law_spoilt_text ct__law_spoilt_text oc__law_noted_contents kV__law_noted_contents dc__law_noted_contents pm__law_noted_contents cd__law_noted_contents ct__law_noted_contents oc__law_whole kV__law_whole dc__law_whole pm__law_whole cd__law_whole ct__law_whole oc__law_place kV__law_place dc__law_place pm__law_place cd__law_place ct__law_place oc__law_contents_due kV__law_contents_due dc__law_contents_due pm__law_contents_due cd__law_contents_due ct__law_contents_due oc__law_cell_due kV__law_cell_due dc__law_cell_due pm__law_cell_due cd__law_cell_due ct__law_cell_due oc__law_cell_heard kV__law_cell_heard dc__law_cell_heard pm__law_cell_heard cd__law_cell_heard ct__law_cell_heard oc__law_drawn kV__law_drawn dc__law_drawn pm__law_drawn cd__law_drawn ct__law_drawn oc_law kV_law dc_law pm_law cd_law ct_law oc_I kV_I dc_I pm_I cd_I ct_I : Value}
    (a_is_integer : PySem.W.nsIn K mainGlobals "is_integer" = some (some (.ref f_is_integer)))
    (l_is_integer : K.lookup f_is_integer = some ⟨oc_is_integer, od_is_integer, .func (PySem.W.fnOf "is_integer" "is_integer" (defArgs s_is_integer) (defBody s_is_integer) (defScope s_is_integer) .none kV_is_integer dc_is_integer pm_is_integer an_is_integer cd_is_integer ct_is_integer), sl_is_integer⟩)
    (c_is_integer : PySem.W.codeIn K cd_is_integer "is_integer" = true)
    (k_is_integer : PySem.W.keepIn K (.ref f_is_integer) = true)
    (a_is_number : PySem.W.nsIn K mainGlobals "is_number" = some (some (.ref f_is_number)))
    (l_is_number : K.lookup f_is_number = some ⟨oc_is_number, od_is_number, .func (PySem.W.fnOf "is_number" "is_number" (defArgs s_is_number) (defBody s_is_number) (defScope s_is_number) .none kV_is_number dc_is_number pm_is_number an_is_number cd_is_number ct_is_number), sl_is_number⟩)
    (c_is_number : PySem.W.codeIn K cd_is_number "is_number" = true)
    (k_is_number : PySem.W.keepIn K (.ref f_is_number) = true)
    (a_read_integer : PySem.W.nsIn K mainGlobals "read_integer" = some (some (.ref f_read_integer)))
    (l_read_integer : K.lookup f_read_integer = some ⟨oc_read_integer, od_read_integer, .func (PySem.W.fnOf "read_integer" "read_integer" (defArgs s_read_integer) (defBody s_read_integer) (defScope s_read_integer) .none kV_read_integer dc_read_integer pm_read_integer an_read_integer cd_read_integer ct_read_integer), sl_read_integer⟩)
    (c_read_integer : PySem.W.codeIn K cd_read_integer "read_integer" = true)
    (k_read_integer : PySem.W.keepIn K (.ref f_read_integer) = true)
    (a_read_natural : PySem.W.nsIn K mainGlobals "read_natural" = some (some (.ref f_read_natural)))
    (l_read_natural : K.lookup f_read_natural = some ⟨oc_read_natural, od_read_natural, .func (PySem.W.fnOf "read_natural" "read_natural" (defArgs s_read_natural) (defBody s_read_natural) (defScope s_read_natural) .none kV_read_natural dc_read_natural pm_read_natural an_read_natural cd_read_natural ct_read_natural), sl_read_natural⟩)
    (c_read_natural : PySem.W.codeIn K cd_read_natural "read_natural" = true)
    (k_read_natural : PySem.W.keepIn K (.ref f_read_natural) = true)
    (a_lines_of : PySem.W.nsIn K mainGlobals "lines_of" = some (some (.ref f_lines_of)))
    (l_lines_of : K.lookup f_lines_of = some ⟨oc_lines_of, od_lines_of, .func (PySem.W.fnOf "lines_of" "lines_of" (defArgs s_lines_of) (defBody s_lines_of) (defScope s_lines_of) .none kV_lines_of dc_lines_of pm_lines_of an_lines_of cd_lines_of ct_lines_of), sl_lines_of⟩)
    (c_lines_of : PySem.W.codeIn K cd_lines_of "lines_of" = true)
    (k_lines_of : PySem.W.keepIn K (.ref f_lines_of) = true)
    (a_content_in : PySem.W.nsIn K mainGlobals "content_in" = some (some (.ref f_content_in)))
    (l_content_in : K.lookup f_content_in = some ⟨oc_content_in, od_content_in, .func (PySem.W.fnOf "content_in" "content_in" (defArgs s_content_in) (defBody s_content_in) (defScope s_content_in) .none kV_content_in dc_content_in pm_content_in an_content_in cd_content_in ct_content_in), sl_content_in⟩)
    (c_content_in : PySem.W.codeIn K cd_content_in "content_in" = true)
    (k_content_in : PySem.W.keepIn K (.ref f_content_in) = true)
    (a_read_contents : PySem.W.nsIn K mainGlobals "read_contents" = some (some (.ref f_read_contents)))
    (l_read_contents : K.lookup f_read_contents = some ⟨oc_read_contents, od_read_contents, .func (PySem.W.fnOf "read_contents" "read_contents" (defArgs s_read_contents) (defBody s_read_contents) (defScope s_read_contents) .none kV_read_contents dc_read_contents pm_read_contents an_read_contents cd_read_contents ct_read_contents), sl_read_contents⟩)
    (c_read_contents : PySem.W.codeIn K cd_read_contents "read_contents" = true)
    (k_read_contents : PySem.W.keepIn K (.ref f_read_contents) = true)
    (a_cell_in : PySem.W.nsIn K mainGlobals "cell_in" = some (some (.ref f_cell_in)))
    (l_cell_in : K.lookup f_cell_in = some ⟨oc_cell_in, od_cell_in, .func (PySem.W.fnOf "cell_in" "cell_in" (defArgs s_cell_in) (defBody s_cell_in) (defScope s_cell_in) .none kV_cell_in dc_cell_in pm_cell_in an_cell_in cd_cell_in ct_cell_in), sl_cell_in⟩)
    (c_cell_in : PySem.W.codeIn K cd_cell_in "cell_in" = true)
    (k_cell_in : PySem.W.keepIn K (.ref f_cell_in) = true)
    (a_read_cell : PySem.W.nsIn K mainGlobals "read_cell" = some (some (.ref f_read_cell)))
    (l_read_cell : K.lookup f_read_cell = some ⟨oc_read_cell, od_read_cell, .func (PySem.W.fnOf "read_cell" "read_cell" (defArgs s_read_cell) (defBody s_read_cell) (defScope s_read_cell) .none kV_read_cell dc_read_cell pm_read_cell an_read_cell cd_read_cell ct_read_cell), sl_read_cell⟩)
    (c_read_cell : PySem.W.codeIn K cd_read_cell "read_cell" = true)
    (k_read_cell : PySem.W.keepIn K (.ref f_read_cell) = true)
    (a_show_contents : PySem.W.nsIn K mainGlobals "show_contents" = some (some (.ref f_show_contents)))
    (l_show_contents : K.lookup f_show_contents = some ⟨oc_show_contents, od_show_contents, .func (PySem.W.fnOf "show_contents" "show_contents" (defArgs s_show_contents) (defBody s_show_contents) (defScope s_show_contents) .none kV_show_contents dc_show_contents pm_show_contents an_show_contents cd_show_contents ct_show_contents), sl_show_contents⟩)
    (c_show_contents : PySem.W.codeIn K cd_show_contents "show_contents" = true)
    (k_show_contents : PySem.W.keepIn K (.ref f_show_contents) = true)
    (a_show_cell : PySem.W.nsIn K mainGlobals "show_cell" = some (some (.ref f_show_cell)))
    (l_show_cell : K.lookup f_show_cell = some ⟨oc_show_cell, od_show_cell, .func (PySem.W.fnOf "show_cell" "show_cell" (defArgs s_show_cell) (defBody s_show_cell) (defScope s_show_cell) .none kV_show_cell dc_show_cell pm_show_cell an_show_cell cd_show_cell ct_show_cell), sl_show_cell⟩)
    (c_show_cell : PySem.W.codeIn K cd_show_cell "show_cell" = true)
    (k_show_cell : PySem.W.keepIn K (.ref f_show_cell) = true)
    (a__law_bag : PySem.W.nsIn K mainGlobals "_law_bag" = some (some (.ref f__law_bag)))
    (l__law_bag : K.lookup f__law_bag = some ⟨oc__law_bag, od__law_bag, .func (PySem.W.fnOf "_law_bag" "_law_bag" (defArgs s__law_bag) (defBody s__law_bag) (defScope s__law_bag) .none kV__law_bag dc__law_bag pm__law_bag an__law_bag cd__law_bag ct__law_bag), sl__law_bag⟩)
    (c__law_bag : PySem.W.codeIn K cd__law_bag "_law_bag" = true)
    (k__law_bag : PySem.W.keepIn K (.ref f__law_bag) = true)
    (a__law_take : PySem.W.nsIn K mainGlobals "_law_take" = some (some (.ref f__law_take)))
    (l__law_take : K.lookup f__law_take = some ⟨oc__law_take, od__law_take, .func (PySem.W.fnOf "_law_take" "_law_take" (defArgs s__law_take) (defBody s__law_take) (defScope s__law_take) .none kV__law_take dc__law_take pm__law_take an__law_take cd__law_take ct__law_take), sl__law_take⟩)
    (c__law_take : PySem.W.codeIn K cd__law_take "_law_take" = true)
    (k__law_take : PySem.W.keepIn K (.ref f__law_take) = true)
    (a__law_alike : PySem.W.nsIn K mainGlobals "_law_alike" = some (some (.ref f__law_alike)))
    (l__law_alike : K.lookup f__law_alike = some ⟨oc__law_alike, od__law_alike, .func (PySem.W.fnOf "_law_alike" "_law_alike" (defArgs s__law_alike) (defBody s__law_alike) (defScope s__law_alike) .none kV__law_alike dc__law_alike pm__law_alike an__law_alike cd__law_alike ct__law_alike), sl__law_alike⟩)
    (c__law_alike : PySem.W.codeIn K cd__law_alike "_law_alike" = true)
    (k__law_alike : PySem.W.keepIn K (.ref f__law_alike) = true)
    (a__law_mixed : PySem.W.nsIn K mainGlobals "_law_mixed" = some (some (.ref f__law_mixed)))
    (l__law_mixed : K.lookup f__law_mixed = some ⟨oc__law_mixed, od__law_mixed, .func (PySem.W.fnOf "_law_mixed" "_law_mixed" (defArgs s__law_mixed) (defBody s__law_mixed) (defScope s__law_mixed) .none kV__law_mixed dc__law_mixed pm__law_mixed an__law_mixed cd__law_mixed ct__law_mixed), sl__law_mixed⟩)
    (c__law_mixed : PySem.W.codeIn K cd__law_mixed "_law_mixed" = true)
    (k__law_mixed : PySem.W.keepIn K (.ref f__law_mixed) = true)
    (a__law_one : PySem.W.nsIn K mainGlobals "_law_one" = some (some (.ref f__law_one)))
    (l__law_one : K.lookup f__law_one = some ⟨oc__law_one, od__law_one, .func (PySem.W.fnOf "_law_one" "_law_one" (defArgs s__law_one) (defBody s__law_one) (defScope s__law_one) .none kV__law_one dc__law_one pm__law_one an__law_one cd__law_one ct__law_one), sl__law_one⟩)
    (c__law_one : PySem.W.codeIn K cd__law_one "_law_one" = true)
    (k__law_one : PySem.W.keepIn K (.ref f__law_one) = true)
    (a__law_spoilt_text : PySem.W.nsIn K mainGlobals "_law_spoilt_text" = some (some (.ref f__law_spoilt_text)))
    (l__law_spoilt_text : K.lookup f__law_spoilt_text = some ⟨oc__law_spoilt_text, od__law_spoilt_text, .func (PySem.W.fnOf "_law_spoilt_text" "_law_spoilt_text" (defArgs s__law_spoilt_text) (defBody s__law_spoilt_text) (defScope s__law_spoilt_text) .none kV__law_spoilt_text dc__law_spoilt_text pm__law_spoilt_text an__law_spoilt_text cd__law_spoilt_text ct__law_spoilt_text), sl__law_spoilt_text⟩)
    (c__law_spoilt_text : PySem.W.codeIn K cd__law_spoilt_text "_law_spoilt_text" = true)
    (k__law_spoilt_text : PySem.W.keepIn K (.ref f__law_spoilt_text) = true)
    (a__law_noted_contents : PySem.W.nsIn K mainGlobals "_law_noted_contents" = some (some (.ref f__law_noted_contents)))
    (l__law_noted_contents : K.lookup f__law_noted_contents = some ⟨oc__law_noted_contents, od__law_noted_contents, .func (PySem.W.fnOf "_law_noted_contents" "_law_noted_contents" (defArgs s__law_noted_contents) (defBody s__law_noted_contents) (defScope s__law_noted_contents) .none kV__law_noted_contents dc__law_noted_contents pm__law_noted_contents an__law_noted_contents cd__law_noted_contents ct__law_noted_contents), sl__law_noted_contents⟩)
    (c__law_noted_contents : PySem.W.codeIn K cd__law_noted_contents "_law_noted_contents" = true)
    (k__law_noted_contents : PySem.W.keepIn K (.ref f__law_noted_contents) = true)
    (a__law_whole : PySem.W.nsIn K mainGlobals "_law_whole" = some (some (.ref f__law_whole)))
    (l__law_whole : K.lookup f__law_whole = some ⟨oc__law_whole, od__law_whole, .func (PySem.W.fnOf "_law_whole" "_law_whole" (defArgs s__law_whole) (defBody s__law_whole) (defScope s__law_whole) .none kV__law_whole dc__law_whole pm__law_whole an__law_whole cd__law_whole ct__law_whole), sl__law_whole⟩)
    (c__law_whole : PySem.W.codeIn K cd__law_whole "_law_whole" = true)
    (k__law_whole : PySem.W.keepIn K (.ref f__law_whole) = true)
    (a__law_place : PySem.W.nsIn K mainGlobals "_law_place" = some (some (.ref f__law_place)))
    (l__law_place : K.lookup f__law_place = some ⟨oc__law_place, od__law_place, .func (PySem.W.fnOf "_law_place" "_law_place" (defArgs s__law_place) (defBody s__law_place) (defScope s__law_place) .none kV__law_place dc__law_place pm__law_place an__law_place cd__law_place ct__law_place), sl__law_place⟩)
    (c__law_place : PySem.W.codeIn K cd__law_place "_law_place" = true)
    (k__law_place : PySem.W.keepIn K (.ref f__law_place) = true)
    (a__law_contents_due : PySem.W.nsIn K mainGlobals "_law_contents_due" = some (some (.ref f__law_contents_due)))
    (l__law_contents_due : K.lookup f__law_contents_due = some ⟨oc__law_contents_due, od__law_contents_due, .func (PySem.W.fnOf "_law_contents_due" "_law_contents_due" (defArgs s__law_contents_due) (defBody s__law_contents_due) (defScope s__law_contents_due) .none kV__law_contents_due dc__law_contents_due pm__law_contents_due an__law_contents_due cd__law_contents_due ct__law_contents_due), sl__law_contents_due⟩)
    (c__law_contents_due : PySem.W.codeIn K cd__law_contents_due "_law_contents_due" = true)
    (k__law_contents_due : PySem.W.keepIn K (.ref f__law_contents_due) = true)
    (a__law_cell_due : PySem.W.nsIn K mainGlobals "_law_cell_due" = some (some (.ref f__law_cell_due)))
    (l__law_cell_due : K.lookup f__law_cell_due = some ⟨oc__law_cell_due, od__law_cell_due, .func (PySem.W.fnOf "_law_cell_due" "_law_cell_due" (defArgs s__law_cell_due) (defBody s__law_cell_due) (defScope s__law_cell_due) .none kV__law_cell_due dc__law_cell_due pm__law_cell_due an__law_cell_due cd__law_cell_due ct__law_cell_due), sl__law_cell_due⟩)
    (c__law_cell_due : PySem.W.codeIn K cd__law_cell_due "_law_cell_due" = true)
    (k__law_cell_due : PySem.W.keepIn K (.ref f__law_cell_due) = true)
    (a__law_cell_heard : PySem.W.nsIn K mainGlobals "_law_cell_heard" = some (some (.ref f__law_cell_heard)))
    (l__law_cell_heard : K.lookup f__law_cell_heard = some ⟨oc__law_cell_heard, od__law_cell_heard, .func (PySem.W.fnOf "_law_cell_heard" "_law_cell_heard" (defArgs s__law_cell_heard) (defBody s__law_cell_heard) (defScope s__law_cell_heard) .none kV__law_cell_heard dc__law_cell_heard pm__law_cell_heard an__law_cell_heard cd__law_cell_heard ct__law_cell_heard), sl__law_cell_heard⟩)
    (c__law_cell_heard : PySem.W.codeIn K cd__law_cell_heard "_law_cell_heard" = true)
    (k__law_cell_heard : PySem.W.keepIn K (.ref f__law_cell_heard) = true)
    (a__law_drawn : PySem.W.nsIn K mainGlobals "_law_drawn" = some (some (.ref f__law_drawn)))
    (l__law_drawn : K.lookup f__law_drawn = some ⟨oc__law_drawn, od__law_drawn, .func (PySem.W.fnOf "_law_drawn" "_law_drawn" (defArgs s__law_drawn) (defBody s__law_drawn) (defScope s__law_drawn) .none kV__law_drawn dc__law_drawn pm__law_drawn an__law_drawn cd__law_drawn ct__law_drawn), sl__law_drawn⟩)
    (c__law_drawn : PySem.W.codeIn K cd__law_drawn "_law_drawn" = true)
    (k__law_drawn : PySem.W.keepIn K (.ref f__law_drawn) = true)
    (a_law : PySem.W.nsIn K mainGlobals "law" = some (some (.ref f_law)))
    (l_law : K.lookup f_law = some ⟨oc_law, od_law, .func (PySem.W.fnOf "law" "law" (defArgs s_law) (defBody s_law) (defScope s_law) .none kV_law dc_law pm_law an_law cd_law ct_law), sl_law⟩)
    (c_law : PySem.W.codeIn K cd_law "law" = true)
    (k_law : PySem.W.keepIn K (.ref f_law) = true)
    (z_len : PySem.W.nsIn K mainGlobals "len" = some none)
    (z_int : PySem.W.nsIn K mainGlobals "int" = some none)
    (z_str : PySem.W.nsIn K mainGlobals "str" = some none)
    (z_bool : PySem.W.nsIn K mainGlobals "bool" = some none)
    (z_abs : PySem.W.nsIn K mainGlobals "abs" = some none)
    (z_all : PySem.W.nsIn K mainGlobals "all" = some none)
    (z_repr : PySem.W.nsIn K mainGlobals "repr" = some none)
    (z_dict : PySem.W.nsIn K mainGlobals "dict" = some none)
    (z_sorted : PySem.W.nsIn K mainGlobals "sorted" = some none)
    (z_isinstance : PySem.W.nsIn K mainGlobals "isinstance" = some none)
    (z_range : PySem.W.nsIn K mainGlobals "range" = some none)
    (z_enumerate : PySem.W.nsIn K mainGlobals "enumerate" = some none)
    (g_DIGITS : PySem.W.nsIn K mainGlobals "DIGITS" = some (some (.str "0123456789" tD)))
    (g_MOST : PySem.W.nsIn K mainGlobals "MOST_DIGITS" = some (some (.int 60 tM)))
    (a_NoText : PySem.W.nsIn K mainGlobals "NoText" = some (some (.ref C)))
    (a_NoCommand : PySem.W.nsIn K mainGlobals "NoCommand" = some (some (.ref C2)))
    (a_SheetError : PySem.W.nsIn K mainGlobals "SheetError" = some (some (.ref C3)))
    (xL : K.lookup C = some (excClassObj nm q C NA bs bm true sn sub ab col dd m0 m1 m2 m3 m5 "ValueError.__new__"))
    (rv : PySem.HandSPX.refsVE bm = true)
    (sa : PySem.W.findIn K (.ref C) "__setattr__" = some (some (.builtin "object.__setattr__")))
    (exC : PySem.W.subIn K (.ref C) (.type "BaseException") = some true)
    (tyC : PySem.W.typeIn K (.ref C) = some (.type "type"))
    (kC : PySem.W.keepIn K (.ref C) = true)
    (ga : PySem.W.findIn K (.ref C) "__getattribute__" = some (some (.builtin "BaseException.__getattribute__")))
    (gg : PySem.W.findIn K (.ref C) "__getattr__" = some none)
    (hd : PySem.W.hasDictIn K C = true)
    (hcl : PySem.W.findIn K (.ref C) "__class__" = some (some (.builtin "object.__class__")))
    (hn : PySem.W.specialIn K (.builtin "object.__class__") "__get__" = some (some (.builtin "getset_descriptor.__get__")))
    (ht : PySem.W.takesIn K (.builtin "object.__class__") = some true)
    (hm : PySem.W.mroIn K C (.type "object") = some true)
    (noF : PySem.W.findIn K (.ref C) "line" = some none)
    (a_I : PySem.W.findIn K (.ref C) "__init__" = some (some (.ref fI)))
    (t_I : PySem.W.typeIn K (.ref fI) = some (.type "function"))
    (l_I : K.lookup fI = some ⟨oc_I, od_I, .func (PySem.W.fnOf "__init__" "NoText.__init__" (defArgs sInit) (defBody sInit) (defScope sInit) .none kV_I dc_I pm_I an_I cd_I ct_I), sl_I⟩)
    (c_I : PySem.W.codeIn K cd_I "NoText.__init__" = true)
    (k_I : PySem.W.keepIn K (.ref fI) = true)
    (e3 : PySem.W.subIn K (.ref C3) (.type "BaseException") = some true)
    (i3 : PySem.W.isClsIn K C3 = true)
    (t3 : PySem.W.typeIn K (.ref C3) = some (.type "type"))
    (s3 : PySem.W.subIn K (.ref C) (.ref C3) = some true)
    (i2 : PySem.W.isClsIn K C2 = true)
    (t2 : PySem.W.typeIn K (.ref C2) = some (.type "type"))
    (s2 : PySem.W.subIn K (.ref C) (.ref C2) = some false)
    (ne : (Value.ref C == Value.ref C2) = false) :
    ∃ fd : FuncData, (∀ (s : Shared) (u : Value), BindsTo s fd ⟨[u], []⟩ [("_law_script", u)]) ∧ ∀ base : Heap, K.In base → base.Ns mainGlobals mg → FnG P w K mg base 8 fa fd ["_law_script"] (spL K) := by
  have e := hfa.symm.trans (PySem.W.mg_of X G a_law)
  cases e
  have T : Txt mg := ⟨PySem.W.mg_none_of X G z_len, PySem.W.mg_none_of X G z_int, PySem.W.mg_none_of X G z_str, PySem.W.mg_none_of X G z_bool, PySem.W.mg_none_of X G z_abs, PySem.W.mg_none_of X G z_all, PySem.W.mg_none_of X G z_repr, PySem.W.mg_none_of X G z_dict, PySem.W.mg_none_of X G z_sorted, PySem.W.mg_none_of X G z_isinstance, PySem.W.mg_none_of X G z_range, PySem.W.mg_none_of X G z_enumerate, gFAR, ⟨_, PySem.W.mg_of X G g_DIGITS, _, rfl⟩, ⟨_, PySem.W.mg_of X G g_MOST, _, rfl⟩⟩
  have oex : OexC K C := ⟨⟨nm, q, NA, bs, bm, sn, sub, ab, col, dd, m0, m1, m2, m3, m5, xL, rv⟩, sa, exC, tyC, kC⟩
  refine ⟨PySem.W.fnOf "law" "law" (defArgs s_law) (defBody s_law) (defScope s_law) .none kV_law dc_law pm_law an_law cd_law ct_law, fun s v => .of_eq rfl, fun base _ _ => fng_ex fun ns => ?_⟩
  have F_I := fun_mk (st := sInit) l_I c_I k_I
  have T_err : Err P w K mg base C "NoText" "line" := ⟨PySem.W.mg_of X G a_NoText, oex, ⟨ga, gg, exC, hd⟩, ⟨ga, gg, exC, hd, hcl, hn, ht, hm⟩, noF, fI, _, ["self", "line"], a_I, t_I, init_fn (k := 0) F_I sc_init rfl oex noF rfl rfl, F_I.binds (ps := ["self", "line"]) fun _ _ _ _ _ _ us hl => match us, hl with | [_, _], _ => rfl⟩
  have exm := exm_mk e3 i3 t3 s3
  have is1 := kit_self K C
  have is2 := kit_no ne i2 t2 s2
  have T_cat : Catch K mg C C3 "SheetError" := ⟨PySem.W.mg_of X G a_SheetError, exm⟩
  have F_is_integer := fun_mk (st := s_is_integer) l_is_integer c_is_integer k_is_integer
  have cal_is_integer : Cal P w K mg base CX0 1 "is_integer" p_is_integer con_is_integer := ⟨f_is_integer, _, ok_is_integer F_is_integer T, PySem.W.mg_of X G a_is_integer, k_is_integer, F_is_integer.binds (ps := p_is_integer) fun _ _ _ _ _ _ us hl => match us, hl with | [_], _ => rfl⟩
  have F_read_integer := fun_mk (st := s_read_integer) l_read_integer c_read_integer k_read_integer
  have cal_read_integer : Cal P w K mg base CX0 1 "read_integer" p_read_integer con_read_integer := ⟨f_read_integer, _, ok_read_integer F_read_integer T, PySem.W.mg_of X G a_read_integer, k_read_integer, F_read_integer.binds (ps := p_read_integer) fun _ _ _ _ _ _ us hl => match us, hl with | [_], _ => rfl⟩
  have F_is_number := fun_mk (st := s_is_number) l_is_number c_is_number k_is_number
  have cal_is_number : Cal P w K mg base CX0 3 "is_number" p_is_number con_is_number := ⟨f_is_number, _, ok_is_number F_is_number T cal_is_integer, PySem.W.mg_of X G a_is_number, k_is_number, F_is_number.binds (ps := p_is_number) fun _ _ _ _ _ _ us hl => match us, hl with | [_], _ => rfl⟩
  have F_read_natural := fun_mk (st := s_read_natural) l_read_natural c_read_natural k_read_natural
  have cal_read_natural : Cal P w K mg base CX0 3 "read_natural" p_read_natural con_read_natural := ⟨f_read_natural, _, ok_read_natural F_read_natural T cal_read_integer, PySem.W.mg_of X G a_read_natural, k_read_natural, F_read_natural.binds (ps := p_read_natural) fun _ _ _ _ _ _ us hl => match us, hl with | [_], _ => rfl⟩
  have F_content_in := fun_mk (st := s_content_in) l_content_in c_content_in k_content_in
  have cal_content_in : Cal P w K mg base CX0 4 "content_in" p_content_in con_content_in := ⟨f_content_in, _, ok_content_in F_content_in T cal_read_integer cal_read_natural cal_is_number, PySem.W.mg_of X G a_content_in, k_content_in, F_content_in.binds (ps := p_content_in) fun _ _ _ _ _ _ us hl => match us, hl with | [_], _ => rfl⟩
  have F_cell_in := fun_mk (st := s_cell_in) l_cell_in c_cell_in k_cell_in
  have cal_cell_in : Cal P w K mg base CX0 4 "cell_in" p_cell_in con_cell_in := ⟨f_cell_in, _, ok_cell_in F_cell_in T cal_read_natural, PySem.W.mg_of X G a_cell_in, k_cell_in, F_cell_in.binds (ps := p_cell_in) fun _ _ _ _ _ _ us hl => match us, hl with | [_, _], _ => rfl⟩
  have F_read_cell := fun_mk (st := s_read_cell) l_read_cell c_read_cell k_read_cell
  have cal_read_cell : Cal P w K mg base (L2.CX P w) 6 "read_cell" p_read_cell (con_read_cell C) := ⟨f_read_cell, _, ok_read_cell F_read_cell T T_err cal_cell_in, PySem.W.mg_of X G a_read_cell, k_read_cell, F_read_cell.binds (ps := p_read_cell) fun _ _ _ _ _ _ us hl => match us, hl with | [_, _], _ => rfl⟩
  have F_show_cell := fun_mk (st := s_show_cell) l_show_cell c_show_cell k_show_cell
  have cal_show_cell : Cal P w K mg base CX0 2 "show_cell" p_show_cell con_show_cell := ⟨f_show_cell, _, ok_show_cell F_show_cell T, PySem.W.mg_of X G a_show_cell, k_show_cell, F_show_cell.binds (ps := p_show_cell) fun _ _ _ _ _ _ us hl => match us, hl with | [_, _], _ => rfl⟩
  have F_lines_of := fun_mk (st := s_lines_of) l_lines_of c_lines_of k_lines_of
  have cal_lines_of : Cal P w K mg base (L2.CX P w) 5 "lines_of" p_lines_of (con_lines_of C) := ⟨f_lines_of, _, ok_lines_of F_lines_of T T_err, PySem.W.mg_of X G a_lines_of, k_lines_of, F_lines_of.binds (ps := p_lines_of) fun _ _ _ _ _ _ us hl => match us, hl with | [_], _ => rfl⟩
  have F_read_contents := fun_mk (st := s_read_contents) l_read_contents c_read_contents k_read_contents
  have cal_read_contents : Cal P w K mg base (L2.CX P w) 6 "read_contents" p_read_contents (con_read_contents C) := ⟨f_read_contents, _, ok_read_contents F_read_contents T T_err cal_lines_of cal_content_in, PySem.W.mg_of X G a_read_contents, k_read_contents, F_read_contents.binds (ps := p_read_contents) fun _ _ _ _ _ _ us hl => match us, hl with | [_], _ => rfl⟩
  have F_show_contents := fun_mk (st := s_show_contents) l_show_contents c_show_contents k_show_contents
  have cal_show_contents : Cal P w K mg base CX0 4 "show_contents" p_show_contents con_show_contents := ⟨f_show_contents, _, ok_show_contents F_show_contents T, PySem.W.mg_of X G a_show_contents, k_show_contents, F_show_contents.binds (ps := p_show_contents) fun _ _ _ _ _ _ us hl => match us, hl with | [_], _ => rfl⟩
  have F__law_whole := fun_mk (st := s__law_whole) l__law_whole c__law_whole k__law_whole
  have cal__law_whole : Cal P w K mg base CX0 1 "_law_whole" p__law_whole con__law_whole := ⟨f__law_whole, _, ok__law_whole F__law_whole T, PySem.W.mg_of X G a__law_whole, k__law_whole, F__law_whole.binds (ps := p__law_whole) fun _ _ _ _ _ _ us hl => match us, hl with | [_], _ => rfl⟩
  have F__law_place := fun_mk (st := s__law_place) l__law_place c__law_place k__law_place
  have cal__law_place : Cal P w K mg base CX0 5 "_law_place" p__law_place con__law_place := ⟨f__law_place, _, ok__law_place F__law_place T cal__law_whole, PySem.W.mg_of X G a__law_place, k__law_place, F__law_place.binds (ps := p__law_place) fun _ _ _ _ _ _ us hl => match us, hl with | [_, _], _ => rfl⟩
  have F__law_contents_due := fun_mk (st := s__law_contents_due) l__law_contents_due c__law_contents_due k__law_contents_due
  have cal__law_contents_due : Cal P w K mg base CX0 7 "_law_contents_due" p__law_contents_due con__law_contents_due := ⟨f__law_contents_due, _, ok__law_contents_due F__law_contents_due T cal__law_place cal__law_whole, PySem.W.mg_of X G a__law_contents_due, k__law_contents_due, F__law_contents_due.binds (ps := p__law_contents_due) fun _ _ _ _ _ _ us hl => match us, hl with | [_], _ => rfl⟩
  have F__law_cell_due := fun_mk (st := s__law_cell_due) l__law_cell_due c__law_cell_due k__law_cell_due
  have cal__law_cell_due : Cal P w K mg base CX0 6 "_law_cell_due" p__law_cell_due con__law_cell_due := ⟨f__law_cell_due, _, ok__law_cell_due F__law_cell_due T cal__law_place, PySem.W.mg_of X G a__law_cell_due, k__law_cell_due, F__law_cell_due.binds (ps := p__law_cell_due) fun _ _ _ _ _ _ us hl => match us, hl with | [_, _], _ => rfl⟩
  have F__law_cell_heard := fun_mk (st := s__law_cell_heard) l__law_cell_heard c__law_cell_heard k__law_cell_heard
  have cal__law_cell_heard : Cal P w K mg base CX0 7 "_law_cell_heard" p__law_cell_heard con__law_cell_heard := ⟨f__law_cell_heard, _, ok__law_cell_heard F__law_cell_heard T T_err T_cat (PySem.W.mg_of X G a_NoText) (PySem.W.mg_of X G a_NoCommand) is1 is2 cal_read_cell, PySem.W.mg_of X G a__law_cell_heard, k__law_cell_heard, F__law_cell_heard.binds (ps := p__law_cell_heard) fun _ _ _ _ _ _ us hl => match us, hl with | [_, _], _ => rfl⟩
  have F__law_noted_contents := fun_mk (st := s__law_noted_contents) l__law_noted_contents c__law_noted_contents k__law_noted_contents
  have cal__law_noted_contents : Cal P w K mg base CX0 7 "_law_noted_contents" p__law_noted_contents con__law_noted_contents := ⟨f__law_noted_contents, _, ok__law_noted_contents F__law_noted_contents T T_err T_cat (PySem.W.mg_of X G a_NoText) (PySem.W.mg_of X G a_NoCommand) is1 is2 cal_read_contents, PySem.W.mg_of X G a__law_noted_contents, k__law_noted_contents, F__law_noted_contents.binds (ps := p__law_noted_contents) fun _ _ _ _ _ _ us hl => match us, hl with | [_], _ => rfl⟩
  have F__law_take := fun_mk (st := s__law_take) l__law_take c__law_take k__law_take
  have cal__law_take : Cal P w K mg base CX0 4 "_law_take" p__law_take conTake := ⟨f__law_take, _, ok__law_take F__law_take T, PySem.W.mg_of X G a__law_take, k__law_take, F__law_take.binds (ps := p__law_take) fun _ _ _ _ _ _ us hl => match us, hl with | [_, _], _ => rfl⟩
  have F__law_alike := fun_mk (st := s__law_alike) l__law_alike c__law_alike k__law_alike
  have cal__law_alike : CalG P w K mg base 4 "_law_alike" p__law_alike con__law_alike := ⟨f__law_alike, _, ok__law_alike F__law_alike T, PySem.W.mg_of X G a__law_alike, k__law_alike, F__law_alike.binds (ps := p__law_alike) fun _ _ _ _ _ _ us hl => match us, hl with | [_, _], _ => rfl⟩
  have F__law_mixed := fun_mk (st := s__law_mixed) l__law_mixed c__law_mixed k__law_mixed
  have cal__law_mixed : Cal P w K mg base CX0 5 "_law_mixed" p__law_mixed con__law_mixed := ⟨f__law_mixed, _, ok__law_mixed F__law_mixed T cal__law_take, PySem.W.mg_of X G a__law_mixed, k__law_mixed, F__law_mixed.binds (ps := p__law_mixed) fun _ _ _ _ _ _ us hl => match us, hl with | [_, _], _ => rfl⟩
  have F__law_one := fun_mk (st := s__law_one) l__law_one c__law_one k__law_one
  have cal__law_one : Cal P w K mg base CX0 5 "_law_one" p__law_one con__law_one := ⟨f__law_one, _, ok__law_one F__law_one T cal__law_take, PySem.W.mg_of X G a__law_one, k__law_one, F__law_one.binds (ps := p__law_one) fun _ _ _ _ _ _ us hl => match us, hl with | [_, _], _ => rfl⟩
  have F__law_spoilt_text := fun_mk (st := s__law_spoilt_text) l__law_spoilt_text c__law_spoilt_text k__law_spoilt_text
  have cal__law_spoilt_text : Cal P w K mg base CX0 6 "_law_spoilt_text" p__law_spoilt_text con__law_spoilt_text := ⟨f__law_spoilt_text, _, ok__law_spoilt_text F__law_spoilt_text T cal__law_take cal__law_one, PySem.W.mg_of X G a__law_spoilt_text, k__law_spoilt_text, F__law_spoilt_text.binds (ps := p__law_spoilt_text) fun _ _ _ _ _ _ us hl => match us, hl with | [_, _], _ => rfl⟩
  have F__law_drawn := fun_mk (st := s__law_drawn) l__law_drawn c__law_drawn k__law_drawn
  have cal__law_drawn : Cal P w K mg base CX0 6 "_law_drawn" p__law_drawn con__law_drawn := ⟨f__law_drawn, _, ok__law_drawn F__law_drawn T cal__law_take cal__law_one cal__law_mixed, PySem.W.mg_of X G a__law_drawn, k__law_drawn, F__law_drawn.binds (ps := p__law_drawn) fun _ _ _ _ _ _ us hl => match us, hl with | [_], _ => rfl⟩
  have F__law_bag := fun_mk (st := s__law_bag) l__law_bag c__law_bag k__law_bag
  have cal__law_bag : Cal P w K mg base CX0 5 "_law_bag" p__law_bag (con__law_bag K ns) := ⟨f__law_bag, _, ok__law_bag F__law_bag T, PySem.W.mg_of X G a__law_bag, k__law_bag, F__law_bag.binds (ps := p__law_bag) fun _ _ _ _ _ _ us hl => match us, hl with | [_], _ => rfl⟩
  exact ok_law (C2 := C2) (C3 := C3) (fun_mk (st := s_law) l_law c_law k_law) T cal_read_contents cal_read_cell cal_show_contents cal_show_cell cal__law_take cal__law_drawn cal__law_bag cal__law_spoilt_text cal__law_noted_contents cal__law_contents_due cal__law_cell_due cal__law_cell_heard cal__law_alike
end K92
open PySem PySem.W PyProof.Rows in
set_option maxRecDepth 100000 in
set_option maxHeartbeats 0 in
theorem PySem.Challenge.cw_longsheet_k92_contents_and_cells_read_holds : PySem.Challenge.rw_longsheet_k92_contents_and_cells_read.Holds := by
  w_on; o_law; k_head; (case hw => w_witness2)
  k_fill
  refine DL.head_of (l := PySem.Challenge.rw_longsheet_k92_contents_and_cells_read) (n := 63) (k := 8) (x := "_law_script") (sp := fun w => K92.spL _) rfl (by decide) rfl ⟨rfl, by decide, by decide⟩ (fun w h Y => PySem.W.kIn_of Y) ?F (fun w H a ns _ _ _ hS => K92.wish H a ns hS)
  case F =>
    intro w mg fa h KX G XX hmg
    have gFAR : ∃ u, mg "FAR" = some u ∧ L2.RelV (.int (10 ^ 12)) u := by
      obtain ⟨v, e, r⟩ := XX.2.val _ List.mem_cons_self
      cases r
      exact ⟨_, e, _, rfl⟩
    refine' K92.all_mk KX G hmg gFAR ?a_is_integer ?l_is_integer ?c_is_integer ?k_is_integer ?a_is_number ?l_is_number ?c_is_number ?k_is_number ?a_read_integer ?l_read_integer ?c_read_integer ?k_read_integer ?a_read_natural ?l_read_natural ?c_read_natural ?k_read_natural ?a_lines_of ?l_lines_of ?c_lines_of ?k_lines_of ?a_content_in ?l_content_in ?c_content_in ?k_content_in ?a_read_contents ?l_read_contents ?c_read_contents ?k_read_contents ?a_cell_in ?l_cell_in ?c_cell_in ?k_cell_in ?a_read_cell ?l_read_cell ?c_read_cell ?k_read_cell ?a_show_contents ?l_show_contents ?c_show_contents ?k_show_contents ?a_show_cell ?l_show_cell ?c_show_cell ?k_show_cell ?a__law_bag ?l__law_bag ?c__law_bag ?k__law_bag ?a__law_take ?l__law_take ?c__law_take ?k__law_take ?a__law_alike ?l__law_alike ?c__law_alike ?k__law_alike ?a__law_mixed ?l__law_mixed ?c__law_mixed ?k__law_mixed ?a__law_one ?l__law_one ?c__law_one ?k__law_one ?a__law_spoilt_text ?l__law_spoilt_text ?c__law_spoilt_text ?k__law_spoilt_text ?a__law_noted_contents ?l__law_noted_contents ?c__law_noted_contents ?k__law_noted_contents ?a__law_whole ?l__law_whole ?c__law_whole ?k__law_whole ?a__law_place ?l__law_place ?c__law_place ?k__law_place ?a__law_contents_due ?l__law_contents_due ?c__law_contents_due ?k__law_contents_due ?a__law_cell_due ?l__law_cell_due ?c__law_cell_due ?k__law_cell_due ?a__law_cell_heard ?l__law_cell_heard ?c__law_cell_heard ?k__law_cell_heard ?a__law_drawn ?l__law_drawn ?c__law_drawn ?k__law_drawn ?a_law ?l_law ?c_law ?k_law ?z_len ?z_int ?z_str ?z_bool ?z_abs ?z_all ?z_repr ?z_dict ?z_sorted ?z_isinstance ?z_range ?z_enumerate ?g_DIGITS ?g_MOST ?a_NoText ?a_NoCommand ?a_SheetError ?xL ?rv ?sa ?exC ?tyC ?kC ?ga ?gg ?hd ?hcl ?hn ?ht ?hm ?noF ?a_I ?t_I ?l_I ?c_I ?k_I ?e3 ?i3 ?t3 ?s3 ?i2 ?t2 ?s2 ?ne
    (case a_is_integer => k_is)
    (case l_is_integer => k_is)
    (case c_is_integer => k_is)
    (case k_is_integer => k_is)
    (case a_is_number => k_is)
    (case l_is_number => k_is)
    (case c_is_number => k_is)
    (case k_is_number => k_is)
    (case a_read_integer => k_is)
    (case l_read_integer => k_is)
    (case c_read_integer => k_is)
    (case k_read_integer => k_is)
    (case a_read_natural => k_is)
    (case l_read_natural => k_is)
    (case c_read_natural => k_is)
    (case k_read_natural => k_is)
    (case a_lines_of => k_is)
    (case l_lines_of => k_is)
    (case c_lines_of => k_is)
    (case k_lines_of => k_is)
    (case a_content_in => k_is)
    (case l_content_in => k_is)
    (case c_content_in => k_is)
    (case k_content_in => k_is)
    (case a_read_contents => k_is)
    (case l_read_contents => k_is)
    (case c_read_contents => k_is)
    (case k_read_contents => k_is)
    (case a_cell_in => k_is)
    (case l_cell_in => k_is)
    (case c_cell_in => k_is)
    (case k_cell_in => k_is)
    (case a_read_cell => k_is)
    (case l_read_cell => k_is)
    (case c_read_cell => k_is)
    (case k_read_cell => k_is)
    (case a_show_contents => k_is)
    (case l_show_contents => k_is)
    (case c_show_contents => k_is)
    (case k_show_contents => k_is)
    (case a_show_cell => k_is)
    (case l_show_cell => k_is)
    (case c_show_cell => k_is)
    (case k_show_cell => k_is)
    (case a__law_bag => k_is)
    (case l__law_bag => k_is)
    (case c__law_bag => k_is)
    (case k__law_bag => k_is)
    (case a__law_take => k_is)
    (case l__law_take => k_is)
    (case c__law_take => k_is)
    (case k__law_take => k_is)
    (case a__law_alike => k_is)
    (case l__law_alike => k_is)
    (case c__law_alike => k_is)
    (case k__law_alike => k_is)
    (case a__law_mixed => k_is)
    (case l__law_mixed => k_is)
    (case c__law_mixed => k_is)
    (case k__law_mixed => k_is)
    (case a__law_one => k_is)
    (case l__law_one => k_is)
    (case c__law_one => k_is)
    (case k__law_one => k_is)
    (case a__law_spoilt_text => k_is)
    (case l__law_spoilt_text => k_is)
    (case c__law_spoilt_text => k_is)
    (case k__law_spoilt_text => k_is)
    (case a__law_noted_contents => k_is)
    (case l__law_noted_contents => k_is)
    (case c__law_noted_contents => k_is)
    (case k__law_noted_contents => k_is)
    (case a__law_whole => k_is)
    (case l__law_whole => k_is)
    (case c__law_whole => k_is)
    (case k__law_whole => k_is)
    (case a__law_place => k_is)
    (case l__law_place => k_is)
    (case c__law_place => k_is)
    (case k__law_place => k_is)
    (case a__law_contents_due => k_is)
    (case l__law_contents_due => k_is)
    (case c__law_contents_due => k_is)
    (case k__law_contents_due => k_is)
    (case a__law_cell_due => k_is)
    (case l__law_cell_due => k_is)
    (case c__law_cell_due => k_is)
    (case k__law_cell_due => k_is)
    (case a__law_cell_heard => k_is)
    (case l__law_cell_heard => k_is)
    (case c__law_cell_heard => k_is)
    (case k__law_cell_heard => k_is)
    (case a__law_drawn => k_is)
    (case l__law_drawn => k_is)
    (case c__law_drawn => k_is)
    (case k__law_drawn => k_is)
    (case a_law => k_is)
    (case l_law => k_is)
    (case c_law => k_is)
    (case k_law => k_is)
    (case z_len => k_is)
    (case z_int => k_is)
    (case z_str => k_is)
    (case z_bool => k_is)
    (case z_abs => k_is)
    (case z_all => k_is)
    (case z_repr => k_is)
    (case z_dict => k_is)
    (case z_sorted => k_is)
    (case z_isinstance => k_is)
    (case z_range => k_is)
    (case z_enumerate => k_is)
    (case g_DIGITS => k_is)
    (case g_MOST => k_is)
    (case a_NoText => k_is)
    (case a_NoCommand => k_is)
    (case a_SheetError => k_is)
    (case xL => k_is)
    (case rv => first | decide +kernel | k_is)
    (case sa => k_is)
    (case exC => k_is)
    (case tyC => k_is)
    (case kC => k_is)
    (case ga => k_is)
    (case gg => k_is)
    (case hd => k_is)
    (case hcl => k_is)
    (case hn => k_is)
    (case ht => k_is)
    (case hm => k_is)
    (case noF => k_is)
    (case a_I => k_is)
    (case t_I => k_is)
    (case l_I => k_is)
    (case c_I => k_is)
    (case k_I => k_is)
    (case e3 => k_is)
    (case i3 => k_is)
    (case t3 => k_is)
    (case s3 => k_is)
    (case i2 => k_is)
    (case t2 => k_is)
    (case s2 => k_is)
    (case ne => first | decide | decide +kernel)
