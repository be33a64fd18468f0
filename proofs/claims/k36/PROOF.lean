import PyProof.Rows.All
import Wide.All
import OpenK.AllK
import Wide.FinOn
import HandS.ForMost
import HandS.Exc
import HandS.WordsExc
import HandS.CallSlots
import HandS.TupMul
import HandS.TupAny
import HandS.Wide
import HandS.IsInst
import HandS.SortInts
import HandS.SortRule
import HandS.Conv
import PyProof.ReprLen
import HandS.SetFor
import HandS.Style
import KE.DataMinMax
import KE.SortData
import HandS.Strs
import HandS.Star
import PyProof.Rows.SortShellAny
import HandS.Zip
import HandS.NoneIn
import KE.KIndexOf
import PyProof.Draws
import KE.GoesZip
import KE.GoesMore
import PyProof.TupleOfSeq
import HandS.Deep
import HandS.Flow
import HandS.FStr
import HandS.Text
import HandS.Call
import HandS.More
import HandS.Property
import HandS.OwnEq
import HandS.SlotsOwn
import KE.KExcIs
import HandS.ExcInit
import HandS.ExcField
import HandS.ExcIs
import HandS.ExcValue
import HandS.HotCalls
import PyProof.FString3
import PyProof.Rows.StrIntSpec
import KE.KCallOwn
import PyProof.NeKinds
import HandS.Defaults
import HandS.HeadHook2
import PySem.Challenge.RW_shoeparty_k36_parties_edited
set_option Elab.async false
set_option linter.all false
set_option maxRecDepth 100000
set_option maxHeartbeats 4000000
/-! DL: the data layer. Plain data D, a small store, what a piece of a def does as a function on them. -/
namespace DL
open PySem PySem.Spec PyProof.Rows L2

abbrev St := L2.St
/-! ### data -/
/-- data: what a value says, the heap forgotten; loc n: the n-th object of the store -/
inductive D where
  | non | bl (b : Bool) | int (i : Int) | str (s : Str) | tup (xs : List D) | lst (xs : List D) | dic0 | tupZ (xs : List D) | dicS (kvs : List (Str × Int))
  | loc (n : Nat) | adr (a : Addr) | ty (n : String) | scr (xs : List D)
  /-- an exception: its class, its field's name, the field (or none) -/
  | xc (C : Addr) (f : Str) (xs : List D)
/-- what may change -/
inductive O where
  | lst (xs : List D) | dk (kvs : List (Key × D)) | dt (kvs : List (List Key × D)) | ins (C : Addr) (fs : List (Str × D)) | gone
abbrev Sto := List O
abbrev DEnv := List (Option D)
/-- an exception in the air: its class, its field's name, the field (or none) -/
structure XV where
  C : Addr
  f : Str
  xs : List D
inductive Res (α : Type) where
  | ok (a : α) (S : Sto) | exc (x : XV) (S : Sto) | bad
def Res.bind {α β : Type} (r : Res α) (k : α → Sto → Res β) : Res β := match r with
  | .ok a S => k a S
  | .exc x S => .exc x S
  | .bad => .bad
/-- a statement's end -/
inductive SR where
  | nx (ρ : DEnv) (S : Sto) | rt (d : D) (S : Sto) | bk (ρ : DEnv) (S : Sto) | ct (ρ : DEnv) (S : Sto) | exc (x : XV) (ρ : DEnv) (S : Sto) | bad
def Res.bindS {α : Type} (ρ : DEnv) (r : Res α) (k : α → Sto → SR) : SR := match r with
  | .ok a S => k a S
  | .exc x S => .exc x ρ S
  | .bad => .bad

/-- a caught exception object at a: its class, its dict -/
def ExV (cls : Value) (d : Option Addr) (a : Addr) : HO := .ext fun h => ∃ (oe : Obj) (vs : Array Value), h.get? a = some oe ∧ Zc cls d oe ∧ oe.data = .fields vs
/-! ### how data lies in the heap: F what stands still, m where the store's objects stand -/
mutual
inductive Rep (K : PySem.W.Frag) (F : Hp) (m : List Addr) : D → V → Prop
  | non : Rep K F m .non .non
  | bl (b : Bool) : Rep K F m (.bl b) (.bl b)
  | int (i : Int) : Rep K F m (.int i) (.int i)
  | str (s : Str) : s.length ≤ sizeLine → Rep K F m (.str s) (.str s)
  | tup {a : Addr} {ds : List D} {vs : List V} : ds.length ≤ sizeLine → F a = some (.tup vs) → RepL K F m ds vs → Rep K F m (.tup ds) (.ref a)
  | tupZ {a : Addr} {ds : List D} {vs : List V} : ds.length ≤ sizeLine → (∃ o, F a = some (.frz o (.tup vs)) ∧ o.dict = none) → RepL K F m ds vs → Rep K F m (.tupZ ds) (.ref a)
  | dicS {a : Addr} {kvs : List (Str × Int)} : kvs.length ≤ 100 → F a = some (.dK (kvs.map fun p => (Sum.inr p.1, V.int p.2))) → Rep K F m (.dicS kvs) (.ref a)
  | lst {a : Addr} {ds : List D} {vs : List V} : ds.length ≤ sizeLine → F a = some (.lst vs) → RepL K F m ds vs → Rep K F m (.lst ds) (.ref a)
  | scr {a : Addr} {ds : List D} {vs : List V} : ds.length ≤ sizeLine → SqL K F a vs → RepL K F m ds vs → Rep K F m (.scr ds) (.ref a)
  | dic0 {a : Addr} : F a = some (.dK []) → Rep K F m .dic0 (.ref a)
  | loc {n : Nat} {a : Addr} : m[n]? = some a → Rep K F m (.loc n) (.ref a)
  | adr (a : Addr) : Rep K F m (.adr a) (.ref a)
  | ty (n : String) : Rep K F m (.ty n) (.ty n)
  | xc0 {a C : Addr} {f : Str} : F a = some (ExV (.ref C) none a) → Rep K F m (.xc C f []) (.ref a)
  | xc1 {a C d : Addr} {f : Str} {e : D} {v : V} : F a = some (ExV (.ref C) (some d) a) → F d = some (.xd [(f, v)]) → Rep K F m e v → Rep K F m (.xc C f [e]) (.ref a)
inductive RepL (K : PySem.W.Frag) (F : Hp) (m : List Addr) : List D → List V → Prop
  | nil : RepL K F m [] []
  | cons {d : D} {v : V} {ds : List D} {vs : List V} : Rep K F m d v → RepL K F m ds vs → RepL K F m (d :: ds) (v :: vs)
end
def RepKV {κ : Type} (K : PySem.W.Frag) (F : Hp) (m : List Addr) : List (κ × D) → List (κ × V) → Prop := Paired fun p q => p.1 = q.1 ∧ Rep K F m p.2 q.2
def RepO (K : PySem.W.Frag) (F : Hp) (m : List Addr) : O → HO → Prop
  | .lst ds, h => ∃ vs, h = .lst vs ∧ ds.length ≤ sizeLine ∧ RepL K F m ds vs
  | .dk kvs, h => ∃ vs, h = .dK vs ∧ kvs.length ≤ sizeLine ∧ RepKV K F m kvs vs
  | .dt kvs, h => ∃ vs, h = .dT vs ∧ kvs.length ≤ sizeLine ∧ RepKV K F m kvs vs
  | .ins C fs, h => ∃ dx vs, h = .ins C dx vs ∧ RepKV K F m fs vs
  | .gone, _ => True

structure Le (F F' : Hp) (m m' : List Addr) : Prop where
  f : ∀ a o, F a = some o → F' a = some o
  p : ∀ (n : Nat) a, m[n]? = some a → m'[n]? = some a
theorem Le.refl (F : Hp) (m : List Addr) : Le F F m m := ⟨fun _ _ h => h, fun _ _ h => h⟩
theorem Le.trans {F F1 F2 : Hp} {m m1 m2 : List Addr} (a : Le F F1 m m1) (b : Le F1 F2 m1 m2) : Le F F2 m m2 := ⟨fun c o h => b.f c o (a.f c o h), fun n c h => b.p n c (a.p n c h)⟩
section
variable {K : PySem.W.Frag} {F F' : Hp} {m m' : List Addr}
theorem rd_le (l : ∀ a o, F a = some o → F' a = some o) {a : Addr} {u : HO} (h : Rd F a u) : Rd F' a u := by
  rcases h with h | ⟨o, h⟩
  · exact .inl (l _ _ h)
  · exact .inr ⟨o, l _ _ h⟩
theorem sqL_le (l : ∀ a o, F a = some o → F' a = some o) {a : Addr} {vs : List V} (h : SqL K F a vs) : SqL K F' a vs := by
  rcases h with h | h
  · exact .inl (rd_le l h)
  · exact .inr h
theorem sqT_le (l : ∀ a o, F a = some o → F' a = some o) {a : Addr} {vs : List V} (h : SqT K F a vs) : SqT K F' a vs := by
  rcases h with h | h
  · exact .inl (rd_le l h)
  · exact .inr h
mutual
theorem Rep.le (l : Le F F' m m') : ∀ {d : D} {v : V}, Rep K F m d v → Rep K F' m' d v
  | _, _, .non => .non
  | _, _, .bl b => .bl b
  | _, _, .int i => .int i
  | _, _, .str s h => .str s h
  | _, _, .tup h q r => .tup h (l.f _ _ q) (RepL.le l r)
  | _, _, .tupZ h ⟨o, q, z⟩ r => .tupZ h ⟨o, l.f _ _ q, z⟩ (RepL.le l r)
  | _, _, .dicS h q => .dicS h (l.f _ _ q)
  | _, _, .lst h q r => .lst h (l.f _ _ q) (RepL.le l r)
  | _, _, .scr h q r => .scr h (sqL_le l.f q) (RepL.le l r)
  | _, _, .dic0 h => .dic0 (l.f _ _ h)
  | _, _, .loc h => .loc (l.p _ _ h)
  | _, _, .adr a => .adr a
  | _, _, .ty n => .ty n
  | _, _, .xc0 h => .xc0 (l.f _ _ h)
  | _, _, .xc1 h q r => .xc1 (l.f _ _ h) (l.f _ _ q) (Rep.le l r)
theorem RepL.le (l : Le F F' m m') : ∀ {ds : List D} {vs : List V}, RepL K F m ds vs → RepL K F' m' ds vs
  | _, _, .nil => .nil
  | _, _, .cons a b => .cons (Rep.le l a) (RepL.le l b)
end
theorem RepL.length : ∀ {ds : List D} {vs : List V}, RepL K F m ds vs → ds.length = vs.length
  | _, _, .nil => rfl
  | _, _, .cons _ b => congrArg (· + 1) (RepL.length b)
theorem RepL.get : ∀ {ds : List D} {vs : List V} {i : Nat} {d : D}, RepL K F m ds vs → ds[i]? = some d → ∃ v, vs[i]? = some v ∧ Rep K F m d v
  | _, _, 0, _, .cons a _, h => by simp at h; subst h; exact ⟨_, rfl, a⟩
  | _, _, i + 1, d, .cons _ b, h => by
    obtain ⟨v, h1, h2⟩ := RepL.get (i := i) (d := d) b (by simpa using h)
    exact ⟨v, by simpa using h1, h2⟩
  | _, _, _, _, .nil, h => by simp at h
theorem RepL.getV : ∀ {ds : List D} {vs : List V} {i : Nat} {v : V}, RepL K F m ds vs → vs[i]? = some v → ∃ d, ds[i]? = some d ∧ Rep K F m d v
  | _, _, 0, _, .cons a _, h => by simp at h; subst h; exact ⟨_, rfl, a⟩
  | _, _, i + 1, d, .cons _ b, h => by
    obtain ⟨v, h1, h2⟩ := RepL.getV (i := i) (v := d) b (by simpa using h)
    exact ⟨v, by simpa using h1, h2⟩
  | _, _, _, _, .nil, h => by simp at h
theorem RepL.append : ∀ {ds es : List D} {vs ws : List V}, RepL K F m ds vs → RepL K F m es ws → RepL K F m (ds ++ es) (vs ++ ws)
  | _, _, _, _, .nil, s => s
  | _, _, _, _, .cons a b, s => .cons a (RepL.append b s)
theorem RepL.take : ∀ (n : Nat) {ds : List D} {vs : List V}, RepL K F m ds vs → RepL K F m (ds.take n) (vs.take n)
  | 0, _, _, _ => .nil
  | _ + 1, _, _, .nil => .nil
  | n + 1, _, _, .cons a b => .cons a (RepL.take n b)
theorem RepL.drop : ∀ (n : Nat) {ds : List D} {vs : List V}, RepL K F m ds vs → RepL K F m (ds.drop n) (vs.drop n)
  | 0, _, _, r => r
  | _ + 1, _, _, .nil => .nil
  | n + 1, _, _, .cons _ b => RepL.drop n b
theorem RepL.set : ∀ (n : Nat) {ds : List D} {vs : List V} {d : D} {v : V}, RepL K F m ds vs → Rep K F m d v → RepL K F m (ds.set n d) (vs.set n v)
  | _, _, _, _, _, .nil, _ => .nil
  | 0, _, _, _, _, .cons _ b, r => .cons r b
  | n + 1, _, _, _, _, .cons a b, r => .cons a (RepL.set n b r)
theorem RepL.isEmpty {ds : List D} {vs : List V} (h : RepL K F m ds vs) : vs.isEmpty = ds.isEmpty := by cases h <;> rfl
theorem RepKV.le {κ : Type} (l : Le F F' m m') {a : List (κ × D)} {b : List (κ × V)} (h : RepKV K F m a b) : RepKV K F' m' a b := Paired.mapP h fun _ _ q => ⟨q.1, q.2.le l⟩
theorem RepO.le (l : Le F F' m m') {o : O} {h : HO} (r : RepO K F m o h) : RepO K F' m' o h := by
  cases o with
  | lst ds => obtain ⟨vs, e, z, q⟩ := r; exact ⟨vs, e, z, q.le l⟩
  | dk ds => obtain ⟨vs, e, z, q⟩ := r; exact ⟨vs, e, z, q.le l⟩
  | dt ds => obtain ⟨vs, e, z, q⟩ := r; exact ⟨vs, e, z, q.le l⟩
  | ins C fs => obtain ⟨dx, vs, e, q⟩ := r; exact ⟨dx, vs, e, q.le l⟩
  | gone => trivial
end

/-- the heap holds the store S -/
structure HSt (K : PySem.W.Frag) (H : Hp) (S : Sto) (F : Hp) (m : List Addr) : Prop where
  fz : ∀ a o, F a = some o → H a = some o
  len : m.length = S.length
  nod : m.Nodup
  sto : ∀ (n : Nat) (a : Addr) (o : O), m[n]? = some a → S[n]? = some o → o ≠ .gone → F a = none ∧ ∃ h, H a = some h ∧ RepO K F m o h
  dom : ∀ a ∈ m, H a ≠ none
/-- later -/
structure Ext (H H' F F' : Hp) (m m' : List Addr) : Prop where
  f : ∀ a o, F a = some o → F' a = some o
  t : ∃ t, m' = m ++ t ∧ ∀ a ∈ t, H a = none
  k : ∀ a o, H a = some o → a ∉ m → H' a = some o
  d : ∀ a, H a ≠ none → H' a ≠ none
  n : ∀ a, F a = none → F' a ≠ none → H a = none ∨ a ∈ m
theorem HSt.rd {K : PySem.W.Frag} {H : Hp} {S : Sto} {F : Hp} {m : List Addr} (h : HSt K H S F m) {a : Addr} {u : HO} (f : Rd F a u) : Rd H a u := rd_le h.fz f
section
variable {H H' H1 H2 F F' F1 F2 : Hp} {m m' m1 m2 : List Addr}
theorem Ext.refl (H F : Hp) (m : List Addr) : Ext H H F F m m := ⟨fun _ _ h => h, ⟨[], by simp, fun _ h => nomatch h⟩, fun _ _ h _ => h, fun _ h => h, fun _ h z => absurd h z⟩
theorem Ext.le (e : Ext H H' F F' m m') : Le F F' m m' := ⟨e.f, fun n a h => by
  obtain ⟨t, rfl, _⟩ := e.t
  rw [List.getElem?_append_left (List.getElem?_eq_some_iff.mp h).1]
  exact h⟩
theorem Ext.trans (a : Ext H H1 F F1 m m1) (b : Ext H1 H2 F1 F2 m1 m2) : Ext H H2 F F2 m m2 := by
  obtain ⟨t, rfl, ht⟩ := a.t
  obtain ⟨u, rfl, hu⟩ := b.t
  refine ⟨fun c o h => b.f c o (a.f c o h), ⟨t ++ u, by rw [List.append_assoc], fun c hc => ?_⟩, fun c o h n => ?_, fun c h => b.d c (a.d c h), fun c h z => ?_⟩
  · rcases List.mem_append.mp hc with z | z
    · exact ht c z
    · cases e : H c with
      | none => rfl
      | some o => exact absurd (hu c z) (a.d c (by rw [e]; simp))
  · refine b.k c o (a.k c o h n) fun z => ?_
    rcases List.mem_append.mp z with z | z
    · exact n z
    · rw [ht c z] at h; cases h
  · by_cases e : F1 c = none
    · rcases b.n c e z with q | q
      · refine .inl ?_
        cases e : H c with
        | none => rfl
        | some o => exact absurd q (a.d c (by rw [e]; simp))
      · rcases List.mem_append.mp q with q | q
        · exact .inr q
        · exact .inl (ht c q)
    · exact a.n c h e
/-- an address that is not told of is changed -/
theorem Ext.side {p : Addr} {o : HO} (e : Ext H H' F F' m m') (n : H p = none) : Ext H (upd H' p o) F F' m m' := ⟨e.f, e.t, fun a u q z => by rw [upd_ne (ne_of_none q n)]; exact e.k a u q z, fun a q => by
  by_cases ha : a = p
  · subst ha; rw [upd_same]; simp
  · rw [upd_ne ha]; exact e.d a q, e.n⟩
theorem HSt.side {K : PySem.W.Frag} {S : Sto} {p : Addr} {o : HO} (h : HSt K H S F m) (n : F p = none) (pm : p ∉ m) : HSt K (upd H p o) S F m :=
  ⟨fun a u e => by rw [upd_ne (ne_of_none e n)]; exact h.fz a u e, h.len, h.nod, fun i a u e1 e2 ng => by
    have ap : a ≠ p := fun z => pm (z ▸ List.mem_of_getElem? e1)
    obtain ⟨h1, ho, h2, h3⟩ := h.sto i a u e1 e2 ng
    exact ⟨h1, ho, by rw [upd_ne ap]; exact h2, h3⟩, fun a z => by
    have ap : a ≠ p := fun q => pm (q ▸ z)
    rw [upd_ne ap]; exact h.dom a z⟩
/-- an address that is not told of is held still -/
theorem HSt.hold {K : PySem.W.Frag} {S : Sto} {p : Addr} {o : HO} (h : HSt K H S F m) (n : F p = none) (pm : p ∉ m) (hp : H p = some o) : HSt K H S (upd F p o) m :=
  ⟨fun a u e => by
    by_cases ha : a = p
    · subst ha; rw [upd_same] at e; cases e; exact hp
    · rw [upd_ne ha] at e; exact h.fz a u e, h.len, h.nod, fun i a u e1 e2 ng => by
    have ap : a ≠ p := fun z => pm (z ▸ List.mem_of_getElem? e1)
    obtain ⟨h1, ho, h2, h3⟩ := h.sto i a u e1 e2 ng
    exact ⟨by rw [upd_ne ap]; exact h1, ho, h2, h3.le ⟨fun b w q => by rw [upd_ne (ne_of_none q n)]; exact q, fun _ _ q => q⟩⟩, h.dom⟩
theorem Ext.hold {p : Addr} {o : HO} (e : Ext H H' F F' m m') (n : F' p = none) (hn : H p = none) : Ext H H' F (upd F' p o) m m' := ⟨fun a u q => by rw [upd_ne (ne_of_none (e.f a u q) n)]; exact e.f a u q, e.t, e.k, e.d, fun a q z => by
  by_cases ha : a = p
  · subst ha; exact .inl hn
  · rw [upd_ne ha] at z; exact e.n a q z⟩
/-- what is neither told of nor new stays so -/
theorem Ext.out {p : Addr} (e : Ext H H' F F' m m') (n : F p = none) (pm : p ∉ m) (hp : H p ≠ none) : F' p = none ∧ p ∉ m' := by
  constructor
  · cases q : F' p with
    | none => rfl
    | some o =>
      rcases e.n p n (by rw [q]; simp) with z | z
      · exact absurd z hp
      · exact absurd z pm
  · obtain ⟨t, rfl, ht⟩ := e.t
    intro z
    rcases List.mem_append.mp z with z | z
    · exact pm z
    · exact hp (ht p z)
end

def RepX (K : PySem.W.Frag) (F : Hp) (m : List Addr) (x : XV) (cv : Value) (dx : Option Addr) : Prop :=
  cv = .ref x.C ∧ ((x.xs = [] ∧ dx = none) ∨ ∃ d v e, x.xs = [e] ∧ dx = some d ∧ F d = some (.xd [(x.f, v)]) ∧ Rep K F m e v)
theorem RepX.le {K : PySem.W.Frag} {F F' : Hp} {m m' : List Addr} (l : Le F F' m m') {x : XV} {cv : Value} {dx : Option Addr} (h : RepX K F m x cv dx) : RepX K F' m' x cv dx := by
  obtain ⟨e, h⟩ := h
  refine ⟨e, ?_⟩
  rcases h with h | ⟨d, v, y, e1, e2, e3, r⟩
  · exact .inl h
  · exact .inr ⟨d, v, y, e1, e2, l.f _ _ e3, r.le l⟩
def Slots (K : PySem.W.Frag) (F : Hp) (m : List Addr) (ρ : DEnv) (σ : St) : Prop := ρ.length = σ.length ∧ ∀ (i : Nat) d, ρ[i]? = some (some d) → ∃ v, σ[i]? = some (some v) ∧ Rep K F m d v
theorem Slots.le {K : PySem.W.Frag} {F F' : Hp} {m m' : List Addr} {ρ : DEnv} {σ : St} (l : Le F F' m m') (s : Slots K F m ρ σ) : Slots K F' m' ρ σ := ⟨s.1, fun i d h => by
  obtain ⟨v, e, r⟩ := s.2 i d h
  exact ⟨v, e, r.le l⟩⟩
theorem Slots.set {K : PySem.W.Frag} {F : Hp} {m : List Addr} {ρ : DEnv} {σ : St} (s : Slots K F m ρ σ) (i : Nat) {d : D} {v : V} (r : Rep K F m d v) : Slots K F m (ρ.set i (some d)) (σ.set i (some v)) := ⟨by rw [List.length_set, List.length_set]; exact s.1, fun j e h => by
  by_cases hj : i = j
  · subst hj
    have hl : i < ρ.length := by
      have := (List.getElem?_eq_some_iff.mp h).1
      rwa [List.length_set] at this
    rw [List.getElem?_set_self hl] at h
    cases h
    exact ⟨v, List.getElem?_set_self (by rw [← s.1]; exact hl), r⟩
  · rw [List.getElem?_set_ne hj] at h
    rw [List.getElem?_set_ne hj]
    exact s.2 j e h⟩
theorem Slots.none {K : PySem.W.Frag} {F : Hp} {m : List Addr} {ρ : DEnv} {σ : St} (s : Slots K F m ρ σ) (i : Nat) (w : Option V) : Slots K F m (ρ.set i none) (σ.set i w) := ⟨by rw [List.length_set, List.length_set]; exact s.1, fun j e h => by
  by_cases hj : i = j
  · subst hj
    by_cases hl : i < ρ.length
    · rw [List.getElem?_set_self hl] at h; cases h
    · rw [List.getElem?_eq_none (by rw [List.length_set]; omega)] at h; cases h
  · rw [List.getElem?_set_ne hj] at h
    rw [List.getElem?_set_ne hj]
    exact s.2 j e h⟩

/-! ### what is wanted behind -/
abbrev XW := Value → Option Addr → Hp → Prop
def Post {α β : Type} (R : Hp → List Addr → α → β → Prop) (mg : Str → Option Value) (K : PySem.W.Frag) (H F : Hp) (m : List Addr) (r : Res α) (Q : β → Hp → Prop) (E : XW) : Prop := match r with
  | .ok a S' => ∀ b H' F' m', HSt K H' S' F' m' → Ext H H' F F' m m' → R F' m' a b → Q b H'
  | .exc x S' => ∀ cv dx H' F' m', HSt K H' S' F' m' → Ext H H' F F' m m' → RepX K F' m' x cv dx → E cv dx H'
  | .bad => False
def SPost (mg : Str → Option Value) (K : PySem.W.Frag) (H F : Hp) (m : List Addr) (r : SR) (N : Ends) (W : WX) : Prop := match r with
  | .nx ρ S => ∀ σ H' F' m', Slots K F' m' ρ σ → HSt K H' S F' m' → Ext H H' F F' m m' → N.nx σ H'
  | .rt d S => ∀ v H' F' m', HSt K H' S F' m' → Ext H H' F F' m m' → Rep K F' m' d v → N.rt v H'
  | .bk ρ S => ∀ σ H' F' m', Slots K F' m' ρ σ → HSt K H' S F' m' → Ext H H' F F' m m' → N.bk σ H'
  | .ct ρ S => ∀ σ H' F' m', Slots K F' m' ρ σ → HSt K H' S F' m' → Ext H H' F F' m m' → N.ct σ H'
  | .exc x ρ S => ∀ cv dx σ H' F' m', Slots K F' m' ρ σ → HSt K H' S F' m' → Ext H H' F F' m m' → RepX K F' m' x cv dx → W cv dx σ H'
  | .bad => False
section
variable {α β γ δ : Type} {R : Hp → List Addr → α → β → Prop} {R' : Hp → List Addr → γ → δ → Prop} {mg : Str → Option Value} {K : PySem.W.Frag} {H H1 F F1 : Hp} {m m1 : List Addr} {E : XW} {Q : β → Hp → Prop}
theorem Post.later {r : Res α} (e : Ext H H1 F F1 m m1) (p : Post R mg K H F m r Q E) : Post R mg K H1 F1 m1 r Q E := by
  cases r with
  | ok a S => exact fun b H' F' m' h x q => p b H' F' m' h (e.trans x) q
  | exc a S => exact fun cv dx H' F' m' h x q => p cv dx H' F' m' h (e.trans x) q
  | bad => exact p
theorem SPost.later {r : SR} {N : Ends} {W : WX} (e : Ext H H1 F F1 m m1) (p : SPost mg K H F m r N W) : SPost mg K H1 F1 m1 r N W := by
  cases r with
  | nx ρ S => exact fun σ H' F' m' s h x => p σ H' F' m' s h (e.trans x)
  | rt d S => exact fun v H' F' m' h x q => p v H' F' m' h (e.trans x) q
  | bk ρ S => exact fun σ H' F' m' s h x => p σ H' F' m' s h (e.trans x)
  | ct ρ S => exact fun σ H' F' m' s h x => p σ H' F' m' s h (e.trans x)
  | exc a ρ S => exact fun cv dx σ H' F' m' s h x q => p cv dx σ H' F' m' s h (e.trans x) q
  | bad => exact p
/-- first r, then k -/
theorem Post.bind {r : Res α} {k : α → Sto → Res γ} {Q' : δ → Hp → Prop} (p : Post R' mg K H F m (r.bind k) Q' E)
    (h : ∀ a S b H' F' m', HSt K H' S F' m' → Ext H H' F F' m m' → R F' m' a b → Post R' mg K H' F' m' (k a S) Q' E → Q b H') : Post R mg K H F m r Q E := by
  cases r with
  | ok a S => exact fun b H' F' m' hs x q => h a S b H' F' m' hs x q (Post.later x p)
  | exc a S => exact p
  | bad => exact p
theorem Post.bindS {r : Res α} {k : α → Sto → SR} {N : Ends} {W : WX} {ρ : DEnv} {σ : St} (sl : Slots K F m ρ σ) (p : SPost mg K H F m (r.bindS ρ k) N W)
    (h : ∀ a S b H' F' m', HSt K H' S F' m' → Ext H H' F F' m m' → R F' m' a b → SPost mg K H' F' m' (k a S) N W → Q b H') : Post R mg K H F m r Q (fun c d H' => W c d σ H') := by
  cases r with
  | ok a S => exact fun b H' F' m' hs x q => h a S b H' F' m' hs x q (SPost.later x p)
  | exc a S => exact fun cv dx H' F' m' hs x q => p cv dx σ H' F' m' (sl.le x.le) hs x q
  | bad => exact p
end

/-! ### a new list -/
def PostN (mg : Str → Option Value) (K : PySem.W.Frag) (H F : Hp) (m : List Addr) (r : Res (List D)) (Q : V → Hp → Prop) (E : XW) : Prop := match r with
  | .ok ds S' => ∀ p vs H' F' m', HSt K H' S' F' m' → Ext H H' F F' m m' → H p = none → F' p = none → p ∉ m' → H' p = some (.lst vs) → RepL K F' m' ds vs → ds.length ≤ sizeLine → Q (.ref p) H'
  | .exc x S' => ∀ cv dx H' F' m', HSt K H' S' F' m' → Ext H H' F F' m m' → RepX K F' m' x cv dx → E cv dx H'
  | .bad => False
section
variable {α β : Type} {R : Hp → List Addr → α → β → Prop} {mg : Str → Option Value} {K : PySem.W.Frag} {H H1 F F1 : Hp} {m m1 : List Addr} {E : XW} {Q : β → Hp → Prop}
theorem PostN.later {r : Res (List D)} {Q : V → Hp → Prop} (e : Ext H H1 F F1 m m1) (p : PostN mg K H F m r Q E) : PostN mg K H1 F1 m1 r Q E := by
  cases r with
  | ok a S => exact fun q vs H' F' m' h x n => p q vs H' F' m' h (e.trans x) (by
      cases z : H q with
      | none => rfl
      | some o => exact absurd n (e.d q (by rw [z]; simp)))
  | exc a S => exact fun cv dx H' F' m' h x q => p cv dx H' F' m' h (e.trans x) q
  | bad => exact p
theorem Post.bindN {r : Res α} {k : α → Sto → Res (List D)} {Q' : V → Hp → Prop} (p : PostN mg K H F m (r.bind k) Q' E)
    (h : ∀ a S b H' F' m', HSt K H' S F' m' → Ext H H' F F' m m' → R F' m' a b → PostN mg K H' F' m' (k a S) Q' E → Q b H') : Post R mg K H F m r Q E := by
  cases r with
  | ok a S => exact fun b H' F' m' hs x q => h a S b H' F' m' hs x q (PostN.later x p)
  | exc a S => exact p
  | bad => exact p
/-- held still -/
theorem PostN.fz {r : Res (List D)} {Q : V → Hp → Prop} (p : Post (Rep K) mg K H F m (r.bind fun ds S1 => .ok (.lst ds) S1) Q E) : PostN mg K H F m r Q E := by
  cases r with
  | ok ds S => exact fun a vs H' F' m' h x n nF nm e r hz => p (.ref a) H' _ m' (h.hold nF nm e) (x.hold nF n) (.lst hz upd_same (r.le ⟨fun b u q => by rw [upd_ne (ne_of_none q nF)]; exact q, fun _ _ q => q⟩))
  | exc a S => exact p
  | bad => exact p
theorem HSt.own {S : Sto} {p : Addr} {o : O} {ho : HO} (h : HSt K H S F m) (hp : H p = some ho) (n : F p = none) (pm : p ∉ m) (r : RepO K F m o ho) : HSt K H (S ++ [o]) F (m ++ [p]) := by
  have le : Le F F m (m ++ [p]) := ⟨fun _ _ e => e, fun i a e => by rw [List.getElem?_append_left (List.getElem?_eq_some_iff.mp e).1]; exact e⟩
  refine ⟨h.fz, by simp [h.len], List.nodup_append.mpr ⟨h.nod, by simp, fun a ha b hb e => pm (by rw [← List.mem_singleton.mp hb, ← e]; exact ha)⟩, fun i a u e1 e2 ng => ?_, fun a z => ?_⟩
  · by_cases hi : i < m.length
    · rw [List.getElem?_append_left hi] at e1
      rw [List.getElem?_append_left (by rw [← h.len]; exact hi)] at e2
      obtain ⟨h1, ho', h2, h3⟩ := h.sto i a u e1 e2 ng
      exact ⟨h1, ho', h2, h3.le le⟩
    · have hl := (List.getElem?_eq_some_iff.mp e1).1
      rw [List.length_append, List.length_singleton] at hl
      have hi' : i = m.length := by omega
      subst hi'
      rw [List.getElem?_append_right (Nat.le_refl _), Nat.sub_self] at e1
      rw [h.len, List.getElem?_append_right (Nat.le_refl _), Nat.sub_self] at e2
      simp at e1 e2
      subst e1 e2
      exact ⟨n, ho, hp, r.le le⟩
  · rcases List.mem_append.mp z with z | z
    · exact h.dom a z
    · rw [List.mem_singleton.mp z, hp]; simp
theorem Ext.own {H' : Hp} {F' : Hp} {m' : List Addr} {p : Addr} (e : Ext H H' F F' m m') (n : H p = none) : Ext H H' F F' m (m' ++ [p]) := ⟨e.f, by
  obtain ⟨t, rfl, ht⟩ := e.t
  exact ⟨t ++ [p], by simp, fun a z => by
    rcases List.mem_append.mp z with z | z
    · exact ht a z
    · rw [List.mem_singleton.mp z]; exact n⟩, e.k, e.d, e.n⟩
/-- laid into the store -/
theorem PostN.nw {r : Res (List D)} {Q : V → Hp → Prop} (p : Post (Rep K) mg K H F m (r.bind fun ds S1 => .ok (.loc S1.length) (S1 ++ [.lst ds])) Q E) : PostN mg K H F m r Q E := by
  cases r with
  | ok ds S => exact fun a vs H' F' m' h x n nF nm e r hz => p (.ref a) H' F' (m' ++ [a]) (h.own e nF nm ⟨vs, rfl, hz, r⟩) (x.own n) (.loc (by rw [← h.len, List.getElem?_append_right (Nat.le_refl _), Nat.sub_self]; rfl))
  | exc a S => exact p
  | bad => exact p
end

/-! ### the judgements -/
structure DN (X : Cx) (e : Expr) (g : DEnv → Sto → Res (List D)) : Prop where
  ex : ∀ W, Takes X W → ∃ t, PE X e t ∧ ∀ σ H ρ S F m Q, Slots X.K F m ρ σ → HSt X.K H S F m → PostN X.mg X.K H F m (g ρ S) Q (fun c d H' => W c d σ H') → t σ H Q
structure XOk (X : Cx) (k : Nat) : Prop where
  room : Room k X.A
  grd : X.A.guards = some []
  calm : X.calm = true
  po : PassesOwn (model X.prog X.w) X.A X.env X.xe
  nd : X.N.Nodup
abbrev Ev (α : Type) := DEnv → Sto → Res α
abbrev RB (_ _ : Hp) (_ : List Addr) (a b : Bool) : Prop := a = b
structure DE (X : Cx) (e : Expr) (g : Ev D) : Prop where
  ex : ∀ W, Takes X W → ∃ t, PE X e t ∧ ∀ σ H ρ S F m Q, Slots X.K F m ρ σ → HSt X.K H S F m → Post (Rep X.K) X.mg X.K H F m (g ρ S) Q (fun c d H' => W c d σ H') → t σ H Q
structure DT (X : Cx) (e : Expr) (g : Ev Bool) : Prop where
  ex : ∀ W, Takes X W → ∃ t, PT X e t ∧ ∀ σ H ρ S F m Q, Slots X.K F m ρ σ → HSt X.K H S F m → Post (fun _ _ (a b : Bool) => a = b) X.mg X.K H F m (g ρ S) Q (fun c d H' => W c d σ H') → t σ H Q
structure DW (X : Cx) (e : Expr) (g : Ev Bool) : Prop where
  ex : ∀ W, Takes X W → ∃ t, PW X e t ∧ ∀ σ H ρ S F m Q, Slots X.K F m ρ σ → HSt X.K H S F m → Post (fun _ _ (a b : Bool) => a = b) X.mg X.K H F m (g ρ S) Q (fun c d H' => W c d σ H') → t σ H Q
structure DA (X : Cx) (es : List Expr) (g : Ev (List D)) : Prop where
  ex : ∀ W, Takes X W → ∃ t, PA X es t ∧ ∀ σ H ρ S F m Q, Slots X.K F m ρ σ → HSt X.K H S F m → Post (RepL X.K) X.mg X.K H F m (g ρ S) Q (fun c d H' => W c d σ H') → t σ H Q
structure DS (X : Cx) (st : Stmt) (g : DEnv → Sto → SR) : Prop where
  ex : ∀ W, Takes X W → ∃ t, PS X st t ∧ ∀ σ H ρ S F m N, Slots X.K F m ρ σ → HSt X.K H S F m → SPost X.mg X.K H F m (g ρ S) N W → t N σ H
structure DSs (X : Cx) (st : List Stmt) (g : DEnv → Sto → SR) : Prop where
  ex : ∀ W, Takes X W → ∃ t, PSs X st t ∧ ∀ σ H ρ S F m N, Slots X.K F m ρ σ → HSt X.K H S F m → SPost X.mg X.K H F m (g ρ S) N W → t N σ H
/-- a target: a name, or a tuple of names; ix: the slots that are stored -/
structure DG (X : Cx) (tg : Expr) (g : D → DEnv → Option DEnv) (ix : List Nat) : Prop where
  ex : ∃ t, PG X tg t ∧ ∀ v σ H ρ S F m d ρ' (Q : St → Hp → Prop), Slots X.K F m ρ σ → HSt X.K H S F m → Rep X.K F m d v → g d ρ = some ρ' →
    (∀ σ', Slots X.K F m ρ' σ' → (∀ vs : List Nat, (∀ i ∈ ix, i ∈ vs) → wipe σ' vs = wipe σ vs) → Q σ' H) → t v σ H Q
structure DGs (X : Cx) (tg : List Expr) (g : List D → DEnv → Option DEnv) (ix : List Nat) : Prop where
  ex : ∃ t, PGs X tg t ∧ ∀ vs σ H ρ S F m ds ρ' (Q : St → Hp → Prop), Slots X.K F m ρ σ → HSt X.K H S F m → RepL X.K F m ds vs → g ds ρ = some ρ' →
    (∀ σ', Slots X.K F m ρ' σ' → (∀ vs : List Nat, (∀ i ∈ ix, i ∈ vs) → wipe σ' vs = wipe σ vs) → Q σ' H) → t vs σ H Q
/-- the items that a for walks, all known ahead -/
structure Walks (K : PySem.W.Frag) (J : It) (ds : List D) (H0 F : Hp) (m : List Addr) : Prop where
  go : ∀ (i : Nat) H S F' m', i < ds.length → Ext H0 H F F' m m' → HSt K H S F' m' → J.go i H
  stop : ∀ (i : Nat) H S F' m', ds.length ≤ i → Ext H0 H F F' m m' → HSt K H S F' m' → J.stop i H
  len : ds.length ≤ sizeLine
  yld : ∀ (i : Nat) H S F' m' x H', i < ds.length → Ext H0 H F F' m m' → HSt K H S F' m' → J.yld i H x H' → ∃ F'' d, HSt K H' S F'' m' ∧ Ext H H' F' F'' m' m' ∧ ds[i]? = some d ∧ Rep K F'' m' d x
structure DI (X : Cx) (tg it : Expr) (g : Ev (List D)) : Prop where
  ex : ∀ W, Takes X W → ∃ wi, PI X tg it wi ∧ ∀ σ H ρ S F m (R : It → Hp → Prop), Slots X.K F m ρ σ → HSt X.K H S F m →
    (match g ρ S with
      | .ok ds S' => ∀ J H' F' m', HSt X.K H' S' F' m' → Ext H H' F F' m m' → Walks X.K J ds H' F' m' → R J H'
      | .exc x S' => ∀ cv dx H' F' m', HSt X.K H' S' F' m' → Ext H H' F F' m m' → RepX X.K F' m' x cv dx → W cv dx σ H'
      | .bad => False) → wi σ H R
end DL

/-! DL: the rules for expressions and statements. -/
namespace DL
open PySem PySem.Spec PyProof.Rows L2
section
variable {K : PySem.W.Frag} {H F : Hp} {S : Sto} {m : List Addr} {p : Addr}
/-- a new object that will stand still -/
theorem HSt.froz (h : HSt K H S F m) (n : H p = none) (o : HO) : HSt K (upd H p o) S (upd F p o) m := by
  have pm : p ∉ m := fun z => h.dom p z n
  have fp : F p = none := by
    cases e : F p with
    | none => rfl
    | some u => rw [h.fz p u e] at n; cases n
  have le : Le F (upd F p o) m m := ⟨fun a u e => by rw [upd_ne (ne_of_none e fp)]; exact e, fun _ _ e => e⟩
  refine ⟨fun a u e => ?_, h.len, h.nod, fun i a u e1 e2 ng => ?_, fun a z => ?_⟩
  · by_cases ha : a = p
    · subst ha; rw [upd_same] at e ⊢; exact e
    · rw [upd_ne ha] at e ⊢; exact h.fz a u e
  · have ap : a ≠ p := fun z => pm (z ▸ List.mem_of_getElem? e1)
    obtain ⟨h1, ho, h2, h3⟩ := h.sto i a u e1 e2 ng
    exact ⟨by rw [upd_ne ap]; exact h1, ho, by rw [upd_ne ap]; exact h2, h3.le le⟩
  · have ap : a ≠ p := fun q => pm (q ▸ z)
    rw [upd_ne ap]; exact h.dom a z
theorem HSt.frozE (h : HSt K H S F m) (n : H p = none) (o : HO) : Ext H (upd H p o) F (upd F p o) m m := by
  have fp : F p = none := by
    cases e : F p with
    | none => rfl
    | some u => rw [h.fz p u e] at n; cases n
  refine ⟨fun a u e => by rw [upd_ne (ne_of_none e fp)]; exact e, ⟨[], by simp, fun _ z => nomatch z⟩, fun a u e _ => by rw [upd_ne (ne_of_none e n)]; exact e, fun a e => ?_, fun a e z => ?_⟩
  · by_cases ha : a = p
    · subst ha; rw [upd_same]; simp
    · rw [upd_ne ha]; exact e
  · by_cases ha : a = p
    · subst ha; exact .inl n
    · rw [upd_ne ha] at z; exact absurd e z
/-- a new object that is not told of -/
theorem HSt.lay (h : HSt K H S F m) (n : H p = none) (o : HO) : HSt K (upd H p o) S F m ∧ Ext H (upd H p o) F F m m := by
  have pm : p ∉ m := fun z => h.dom p z n
  refine ⟨⟨fun a u e => by rw [upd_ne (ne_of_none (h.fz a u e) n)]; exact h.fz a u e, h.len, h.nod, fun i a u e1 e2 ng => ?_, fun a z => ?_⟩, fun a u e => e, ⟨[], by simp, fun _ z => nomatch z⟩, fun a u e _ => by rw [upd_ne (ne_of_none e n)]; exact e, fun a e => ?_, fun a e z => absurd e z⟩
  · have ap : a ≠ p := fun z => pm (z ▸ List.mem_of_getElem? e1)
    obtain ⟨h1, ho, h2, h3⟩ := h.sto i a u e1 e2 ng
    exact ⟨h1, ho, by rw [upd_ne ap]; exact h2, h3⟩
  · have ap : a ≠ p := fun q => pm (q ▸ z)
    rw [upd_ne ap]; exact h.dom a z
  · by_cases ha : a = p
    · subst ha; rw [upd_same]; simp
    · rw [upd_ne ha]; exact e
/-- a new object of the store -/
theorem HSt.push (h : HSt K H S F m) (n : H p = none) {o : O} {ho : HO} (r : RepO K F m o ho) : HSt K (upd H p ho) (S ++ [o]) F (m ++ [p]) ∧ Ext H (upd H p ho) F F m (m ++ [p]) := by
  have pm : p ∉ m := fun z => h.dom p z n
  have fp : F p = none := by
    cases e : F p with
    | none => rfl
    | some u => rw [h.fz p u e] at n; cases n
  have le : Le F F m (m ++ [p]) := ⟨fun _ _ e => e, fun i a e => by rw [List.getElem?_append_left (List.getElem?_eq_some_iff.mp e).1]; exact e⟩
  refine ⟨⟨fun a u e => by rw [upd_ne (ne_of_none (h.fz a u e) n)]; exact h.fz a u e, by simp [h.len], ?_, fun i a u e1 e2 ng => ?_, fun a z => ?_⟩, fun a u e => e, ⟨[p], rfl, fun a z => by rw [List.mem_singleton.mp z]; exact n⟩, fun a u e _ => by rw [upd_ne (ne_of_none e n)]; exact e, fun a e => ?_, fun a e z => absurd e z⟩
  · exact List.nodup_append.mpr ⟨h.nod, by simp, fun a ha b hb e => pm (by rw [← List.mem_singleton.mp hb, ← e]; exact ha)⟩
  · by_cases hi : i < m.length
    · rw [List.getElem?_append_left hi] at e1
      rw [List.getElem?_append_left (by rw [← h.len]; exact hi)] at e2
      have ap : a ≠ p := fun z => pm (z ▸ List.mem_of_getElem? e1)
      obtain ⟨h1, ho', h2, h3⟩ := h.sto i a u e1 e2 ng
      exact ⟨h1, ho', by rw [upd_ne ap]; exact h2, h3.le le⟩
    · have hl := (List.getElem?_eq_some_iff.mp e1).1
      rw [List.length_append, List.length_singleton] at hl
      have hi' : i = m.length := by omega
      subst hi'
      rw [List.getElem?_append_right (Nat.le_refl _), Nat.sub_self] at e1
      rw [h.len, List.getElem?_append_right (Nat.le_refl _), Nat.sub_self] at e2
      simp at e1 e2
      subst e1 e2
      exact ⟨fp, ho, upd_same, r.le le⟩
  · rcases List.mem_append.mp z with z | z
    · have ap : a ≠ p := fun q => pm (q ▸ z)
      rw [upd_ne ap]; exact h.dom a z
    · rw [List.mem_singleton.mp z, upd_same]; simp
  · by_cases ha : a = p
    · subst ha; rw [upd_same]; simp
    · rw [upd_ne ha]; exact e
/-- an object of the store is written -/
theorem HSt.write (h : HSt K H S F m) {n : Nat} (e : m[n]? = some p) {o0 o : O} (e0 : S[n]? = some o0) (ng : o0 ≠ .gone) {ho : HO} (r : RepO K F m o ho) : HSt K (upd H p ho) (S.set n o) F m ∧ Ext H (upd H p ho) F F m m := by
  obtain ⟨fp, h0, hp, _⟩ := h.sto n p o0 e e0 ng
  have pm : p ∈ m := List.mem_of_getElem? e
  refine ⟨⟨fun a u q => by rw [upd_ne (ne_of_none q fp)]; exact h.fz a u q, by simp [h.len], h.nod, fun i a u e1 e2 ngu => ?_, fun a z => ?_⟩, fun a u q => q, ⟨[], by simp, fun _ z => nomatch z⟩, fun a u q hn => ?_, fun a q => ?_, fun a e z => absurd e z⟩
  · by_cases hi : n = i
    · subst hi
      rw [e] at e1; cases e1
      rw [List.getElem?_set_self (List.getElem?_eq_some_iff.mp e0).1] at e2
      cases e2
      exact ⟨fp, ho, upd_same, r⟩
    · rw [List.getElem?_set_ne hi] at e2
      obtain ⟨h1, ho', h2, h3⟩ := h.sto i a u e1 e2 ngu
      have ap : a ≠ p := fun z => by
        subst z
        obtain ⟨l1, q1⟩ := List.getElem?_eq_some_iff.mp e
        obtain ⟨l2, q2⟩ := List.getElem?_eq_some_iff.mp e1
        exact hi ((List.getElem?_inj l1 h.nod).mp (e.trans e1.symm))
      exact ⟨h1, ho', by rw [upd_ne ap]; exact h2, h3⟩
  · by_cases ha : a = p
    · subst ha; rw [upd_same]; simp
    · rw [upd_ne ha]; exact h.dom a z
  · have ap : a ≠ p := fun z => hn (z ▸ pm)
    rw [upd_ne ap]; exact q
  · by_cases ha : a = p
    · subst ha; rw [upd_same]; simp
    · rw [upd_ne ha]; exact q
/-- an object of the store is held still from now on -/
theorem HSt.freeze (h : HSt K H S F m) {n : Nat} (e : m[n]? = some p) {o0 : O} (e0 : S[n]? = some o0) (ng : o0 ≠ .gone) {ho : HO} (hp : H p = some ho) : HSt K H (S.set n .gone) (upd F p ho) m ∧ Ext H H F (upd F p ho) m m := by
  obtain ⟨fp, _⟩ := h.sto n p o0 e e0 ng
  have le : Le F (upd F p ho) m m := ⟨fun a u q => by rw [upd_ne (ne_of_none q fp)]; exact q, fun _ _ q => q⟩
  refine ⟨⟨fun a u q => ?_, by simp [h.len], h.nod, fun i a u e1 e2 ngu => ?_, h.dom⟩, le.f, ⟨[], by simp, fun _ z => nomatch z⟩, fun a u q _ => q, fun a q => q, fun a q z => ?_⟩
  · by_cases ha : a = p
    · subst ha; rw [upd_same] at q; cases q; exact hp
    · rw [upd_ne ha] at q; exact h.fz a u q
  · by_cases hi : n = i
    · subst hi
      rw [List.getElem?_set_self (List.getElem?_eq_some_iff.mp e0).1] at e2
      cases e2
      exact absurd rfl ngu
    · rw [List.getElem?_set_ne hi] at e2
      obtain ⟨h1, ho', h2, h3⟩ := h.sto i a u e1 e2 ngu
      have ap : a ≠ p := fun z => by
        subst z
        obtain ⟨l1, q1⟩ := List.getElem?_eq_some_iff.mp e
        obtain ⟨l2, q2⟩ := List.getElem?_eq_some_iff.mp e1
        exact hi ((List.getElem?_inj l1 h.nod).mp (e.trans e1.symm))
      exact ⟨by rw [upd_ne ap]; exact h1, ho', h2, h3.le le⟩
  · by_cases ha : a = p
    · subst ha; exact .inr (List.mem_of_getElem? e)
    · rw [upd_ne ha] at z; exact absurd q z
end

/-! ### expressions: names, constants, displays -/
def dVar (i : Nat) : Ev D := fun ρ S => match ρ[i]? with
  | some (some d) => .ok d S
  | _ => .bad
def dK (d : D) : Ev D := fun _ S => .ok d S
def dNil : Ev (List D) := fun _ S => .ok [] S
def dCons (a : Ev D) (r : Ev (List D)) : Ev (List D) := fun ρ S => (a ρ S).bind fun d S1 => (r ρ S1).bind fun ds S2 => .ok (d :: ds) S2
def dTup (t : Ev (List D)) : Ev D := fun ρ S => (t ρ S).bind fun ds S1 => if ds.length ≤ sizeLine then .ok (.tup ds) S1 else .bad
def dDis (t : Ev (List D)) : Ev (List D) := fun ρ S => (t ρ S).bind fun ds S1 => if ds.length ≤ sizeLine then .ok ds S1 else .bad
def dFz (t : Ev (List D)) : Ev D := fun ρ S => (t ρ S).bind fun ds S1 => .ok (.lst ds) S1
def dNw (t : Ev (List D)) : Ev D := fun ρ S => (t ρ S).bind fun ds S1 => .ok (.loc S1.length) (S1 ++ [.lst ds])
def dUn (f : D → Sto → Res D) (a : Ev D) : Ev D := fun ρ S => (a ρ S).bind f
def dOp (f : D → D → Sto → Res D) (a b : Ev D) : Ev D := fun ρ S => (a ρ S).bind fun x S1 => (b ρ S1).bind fun y S2 => f x y S2
def dCm (f : D → D → Sto → Res Bool) (a b : Ev D) : Ev Bool := fun ρ S => (a ρ S).bind fun x S1 => (b ρ S1).bind fun y S2 => f x y S2
def dCh (f f' : D → D → Sto → Res Bool) (a b c : Ev D) : Ev Bool := fun ρ S => (a ρ S).bind fun x S1 => (b ρ S1).bind fun y S2 => (f x y S2).bind fun k S3 => if k = true then (c ρ S3).bind fun z S4 => f' y z S4 else .ok false S3
def dBl (a : Ev Bool) : Ev D := fun ρ S => (a ρ S).bind fun b S1 => .ok (.bl b) S1
def asB (d : D) (S : Sto) : Res Bool := match d with
  | .bl b => .ok b S
  | _ => .bad
def dVal (a : Ev D) : Ev Bool := fun ρ S => (a ρ S).bind asB
def dIf {α : Type} (c : Ev Bool) (a b : Ev α) : Ev α := fun ρ S => (c ρ S).bind fun k S1 => if k = true then a ρ S1 else b ρ S1
def dAnd (a b : Ev Bool) : Ev Bool := fun ρ S => (a ρ S).bind fun k S1 => if k = true then b ρ S1 else .ok false S1
def dOr (a b : Ev Bool) : Ev Bool := fun ρ S => (a ρ S).bind fun k S1 => if k = true then .ok true S1 else b ρ S1
def dNot (a : Ev Bool) : Ev Bool := fun ρ S => (a ρ S).bind fun k S1 => .ok (!k) S1

section
variable {X : Cx} {pos : Pos} {a b c e : Expr} {es : List Expr} {ga gb gc : Ev D} {gs : Ev (List D)} {gt gu : Ev Bool}
theorem de_var (i : Nat) {x : Str} (hN : X.N[i]? = some x := by rfl) (hv : Vis X.env.scope x := by first | exact Or.inl rfl | exact Or.inr (Or.inl rfl) | exact Or.inr (Or.inr rfl)) (hd : (x == ("__debug__" : Str)) = false := by decide)
    (hcd : (x == ("__classdict__" : Str)) = false := by decide) : DE X (.Name x pos) (dVar i) := by
  refine ⟨fun W _ => ⟨_, pe_var hN hv hd hcd, fun σ H ρ S F m Q sl hs p => ?_⟩⟩
  unfold dVar at p
  split at p
  · rename_i d e1
    obtain ⟨v, ev, r⟩ := sl.2 i d e1
    exact ⟨v, ev, p v H F m hs (Ext.refl _ _ _) r⟩
  · exact p.elim
theorem de_k {t : V} {d : D} (h : PE X e (tC t)) (r : ∀ K F m, Rep K F m d t) : DE X e (dK d) :=
  ⟨fun W _ => ⟨_, h, fun σ H ρ S F m Q sl hs p => p t H F m hs (Ext.refl _ _ _) (r _ _ _)⟩⟩
theorem de_int {i : Int} {j : Nat} : DE X (.Constant (.int i) j pos) (dK (.int i)) := de_k pe_int fun _ _ _ => .int i
theorem de_bl {i : Bool} {j : Nat} : DE X (.Constant (.bool i) j pos) (dK (.bl i)) := de_k pe_bl fun _ _ _ => .bl i
theorem de_non {j : Nat} : DE X (.Constant .none j pos) (dK .non) := de_k pe_non fun _ _ _ => .non
theorem de_str {x : Str} {j : Nat} (h : x.length ≤ sizeLine := by decide +kernel) : DE X (.Constant (.str x) j pos) (dK (.str x)) := de_k pe_str fun _ _ _ => .str x h
/-- a module's constant -/
theorem de_glob {x : Str} {u : Value} {t : V} {d : D} (hg : Gl X x) (hm : X.mg x = some u) (r : RelV t u) (rd : ∀ K F m, Rep K F m d t) (hdb : (x == ("__debug__" : Str)) = false := by decide) : DE X (.Name x pos) (dK d) :=
  de_k (pe_glob hg hm r hdb) rd
theorem da_nil : DA X [] dNil := ⟨fun W _ => ⟨_, pa_nil, fun σ H ρ S F m Q sl hs p => p [] H F m hs (Ext.refl _ _ _) .nil⟩⟩
theorem da_cons (ha : DE X e ga) (hr : DA X es gs) (hs : starEach (e :: es) X.env = (false, eval e X.env) :: starEach es X.env := by rfl) : DA X (e :: es) (dCons ga gs) := by
  refine ⟨fun W tk => ?_⟩
  obtain ⟨ta, pa, ra⟩ := ha.ex W tk
  obtain ⟨tr, pr, rr⟩ := hr.ex W tk
  refine ⟨_, pa_cons pa pr hs, fun σ H ρ S F m Q sl h p => ?_⟩
  refine ra σ H ρ S F m _ sl h (Post.bind p fun d S1 v H1 F1 m1 h1 x1 r1 p1 => ?_)
  refine rr σ H1 ρ S1 F1 m1 _ (sl.le x1.le) h1 (Post.bind p1 fun ds S2 vs H2 F2 m2 h2 x2 r2 p2 => ?_)
  exact p2 (v :: vs) H2 F2 m2 h2 (Ext.refl _ _ _) (.cons (r1.le x2.le) r2)
theorem de_tup {k : Nat} (h : DA X es gs) : DE X (.Tuple es k pos) (dTup gs) := by
  refine ⟨fun W tk => ?_⟩
  obtain ⟨t, pa, ra⟩ := h.ex W tk
  refine ⟨_, pe_tup pa, fun σ H ρ S F m Q sl h p => ?_⟩
  refine ra σ H ρ S F m _ sl h (Post.bind p fun ds S1 vs H1 F1 m1 h1 x1 r1 p1 => ?_)
  by_cases hz : ds.length ≤ sizeLine
  · rw [if_pos hz] at p1
    exact ⟨by rw [← r1.length]; exact hz, fun q hq => p1 _ _ _ _ (h1.froz hq _) (h1.frozE hq _) (.tup hz upd_same (r1.le (h1.frozE hq _).le))⟩
  · rw [if_neg hz] at p1; exact p1.elim
theorem dn_lst (h : DA X es gs) : DN X (.List es pos) (dDis gs) := by
  refine ⟨fun W tk => ?_⟩
  obtain ⟨t, pa, ra⟩ := h.ex W tk
  refine ⟨_, pe_lst pa, fun σ H ρ S F m Q sl h p => ?_⟩
  refine ra σ H ρ S F m _ sl h (Post.bindN p fun ds S1 vs H1 F1 m1 h1 x1 r1 p1 => ?_)
  by_cases hz : ds.length ≤ sizeLine
  · rw [if_pos hz] at p1
    refine ⟨by rw [← r1.length]; exact hz, fun q hq => ?_⟩
    obtain ⟨h2, x2⟩ := h1.lay hq (.lst vs)
    exact p1 q vs _ F1 m1 h2 x2 hq (by
      cases e : F1 q with
      | none => rfl
      | some u => rw [h1.fz q u e] at hq; cases hq) (fun z => h1.dom q z hq) upd_same r1 hz
  · rw [if_neg hz] at p1; exact p1.elim
theorem de_fz {g : Ev (List D)} (h : DN X e g) : DE X e (dFz g) := ⟨fun W tk => by
  obtain ⟨t, pa, ra⟩ := h.ex W tk
  exact ⟨t, pa, fun σ H ρ S F m Q sl h p => ra σ H ρ S F m Q sl h (PostN.fz p)⟩⟩
theorem de_nw {g : Ev (List D)} (h : DN X e g) : DE X e (dNw g) := ⟨fun W tk => by
  obtain ⟨t, pa, ra⟩ := h.ex W tk
  exact ⟨t, pa, fun σ H ρ S F m Q sl h p => ra σ H ρ S F m Q sl h (PostN.nw p)⟩⟩

/-! ### operators -/
def R2K (X : Cx) (r : R2) (f : D → D → Sto → Res D) : Prop := ∀ H S F m x y dx dy (Q : VK) E, HSt X.K H S F m → Rep X.K F m dx x → Rep X.K F m dy y → Post (Rep X.K) X.mg X.K H F m (f dx dy S) Q E → r x y H Q
def R1K (X : Cx) (r : V → Hp → VK → Prop) (f : D → Sto → Res D) : Prop := ∀ H S F m x dx (Q : VK) E, HSt X.K H S F m → Rep X.K F m dx x → Post (Rep X.K) X.mg X.K H F m (f dx S) Q E → r x H Q
def RCK (X : Cx) (r : R2) (f : D → D → Sto → Res Bool) : Prop := ∀ H S F m x y dx dy (Q : Bool → Hp → Prop) E, HSt X.K H S F m → Rep X.K F m dx x → Rep X.K F m dy y → Post (fun _ _ (a b : Bool) => a = b) X.mg X.K H F m (f dx dy S) Q E → r x y H fun v H' => ∃ k, v = .bl k ∧ Q k H'
def RLK (X : Cx) (r : List V → Hp → VK → Prop) (f : List D → Sto → Res D) : Prop := ∀ H S F m xs ds (Q : VK) E, HSt X.K H S F m → RepL X.K F m ds xs → Post (Rep X.K) X.mg X.K H F m (f ds S) Q E → r xs H Q
theorem de_op {op : Operator} {r : R2} {f : D → D → Sto → Res D} (ho : OpR X (binaryOp op) r) (hf : R2K X r f) (ha : DE X a ga) (hb : DE X b gb) : DE X (.BinOp a op b pos) (dOp f ga gb) := by
  refine ⟨fun W tk => ?_⟩
  obtain ⟨ta, pa, ra⟩ := ha.ex W tk
  obtain ⟨tb, pb, rb⟩ := hb.ex W tk
  refine ⟨_, pe_op ho pa pb, fun σ H ρ S F m Q sl h p => ?_⟩
  refine ra σ H ρ S F m _ sl h (Post.bind p fun d S1 v H1 F1 m1 h1 x1 r1 p1 => ?_)
  refine rb σ H1 ρ S1 F1 m1 _ (sl.le x1.le) h1 (Post.bind p1 fun d2 S2 v2 H2 F2 m2 h2 x2 r2 p2 => ?_)
  exact hf H2 S2 F2 m2 v v2 d d2 Q _ h2 (r1.le x2.le) r2 p2
theorem de_un {op : UnaryOp} {r : V → Hp → VK → Prop} {f : D → Sto → Res D} (ho : UnR X (unaryOp op) r) (hf : R1K X r f) (ha : DE X a ga) : DE X (.UnaryOp op a pos) (dUn f ga) := by
  refine ⟨fun W tk => ?_⟩
  obtain ⟨ta, pa, ra⟩ := ha.ex W tk
  refine ⟨_, pe_un ho pa, fun σ H ρ S F m Q sl h p => ?_⟩
  exact ra σ H ρ S F m _ sl h (Post.bind p fun d S1 v H1 F1 m1 h1 x1 r1 p1 => hf H1 S1 F1 m1 v d Q _ h1 r1 p1)
theorem de_ix {r : R2} {f : D → D → Sto → Res D} (ho : IxR X r) (hf : R2K X r f) (ha : DE X a ga) (hb : DE X b gb) (hs : PlainIx b := by exact fun _ _ => rfl) : DE X (.Subscript a b pos) (dOp f ga gb) := by
  refine ⟨fun W tk => ?_⟩
  obtain ⟨ta, pa, ra⟩ := ha.ex W tk
  obtain ⟨tb, pb, rb⟩ := hb.ex W tk
  refine ⟨_, pe_ix ho pa pb hs, fun σ H ρ S F m Q sl h p => ?_⟩
  refine ra σ H ρ S F m _ sl h (Post.bind p fun d S1 v H1 F1 m1 h1 x1 r1 p1 => ?_)
  refine rb σ H1 ρ S1 F1 m1 _ (sl.le x1.le) h1 (Post.bind p1 fun d2 S2 v2 H2 F2 m2 h2 x2 r2 p2 => ?_)
  exact hf H2 S2 F2 m2 v v2 d d2 Q _ h2 (r1.le x2.le) r2 p2
theorem dt_cmp {op : CmpOp} {r : R2} {f : D → D → Sto → Res Bool} (ho : OpR X (compareOp op) r) (hf : RCK X r f) (ha : DE X a ga) (hb : DE X b gb) (hm : behindInMarks op b = false) : DT X (.Compare a [op] [b] pos) (dCm f ga gb) := by
  refine ⟨fun W tk => ?_⟩
  obtain ⟨ta, pa, ra⟩ := ha.ex W tk
  obtain ⟨tb, pb, rb⟩ := hb.ex W tk
  refine ⟨_, pt_cmpR ho pa pb hm, fun σ H ρ S F m Q sl h p => ?_⟩
  refine ra σ H ρ S F m _ sl h (Post.bind p fun d S1 v H1 F1 m1 h1 x1 r1 p1 => ?_)
  refine rb σ H1 ρ S1 F1 m1 _ (sl.le x1.le) h1 (Post.bind p1 fun d2 S2 v2 H2 F2 m2 h2 x2 r2 p2 => ?_)
  exact hf H2 S2 F2 m2 v v2 d d2 Q _ h2 (r1.le x2.le) r2 p2
theorem postB_V {K : PySem.W.Frag} {mg : Str → Option Value} {H F : Hp} {m : List Addr} {r : Res Bool} {Q : VK} {E : XW} (p : Post (Rep K) mg K H F m (r.bind fun b S1 => .ok (.bl b) S1) Q E) :
    Post (fun _ _ (a b : Bool) => a = b) mg K H F m r (fun k H' => Q (.bl k) H') E := Post.bind p fun b S1 k H1 F1 m1 h1 x1 e p1 => by
  subst e
  exact p1 _ _ _ _ h1 (Ext.refl _ _ _) (.bl b)
theorem de_cmp {op : CmpOp} {r : R2} {f : D → D → Sto → Res Bool} (ho : OpR X (compareOp op) r) (hmono : ∀ x y H (Q Q' : VK), (∀ v H', Q v H' → Q' v H') → r x y H Q → r x y H Q') (hf : RCK X r f) (ha : DE X a ga) (hb : DE X b gb) (hm : behindInMarks op b = false) :
    DE X (.Compare a [op] [b] pos) (dBl (dCm f ga gb)) := by
  refine ⟨fun W tk => ?_⟩
  obtain ⟨ta, pa, ra⟩ := ha.ex W tk
  obtain ⟨tb, pb, rb⟩ := hb.ex W tk
  refine ⟨_, pe_cmpR ho pa pb hm, fun σ H ρ S F m Q sl h p => ?_⟩
  have p' := postB_V p
  refine ra σ H ρ S F m _ sl h (Post.bind p' fun d S1 v H1 F1 m1 h1 x1 r1 p1 => ?_)
  refine rb σ H1 ρ S1 F1 m1 _ (sl.le x1.le) h1 (Post.bind p1 fun d2 S2 v2 H2 F2 m2 h2 x2 r2 p2 => ?_)
  exact hmono _ _ _ _ _ (fun v H' ⟨k, e, q⟩ => by subst e; exact q) (hf H2 S2 F2 m2 v v2 d d2 _ _ h2 (r1.le x2.le) r2 p2)
theorem dt_chain {op op' : CmpOp} {r r' : R2} {f f' : D → D → Sto → Res Bool} (ho : OpR X (compareOp op) r) (ho' : OpR X (compareOp op') r')
    (hmono : ∀ x y H (Q Q' : VK), (∀ v H', Q v H' → Q' v H') → r x y H Q → r x y H Q') (hf : RCK X r f) (hf' : RCK X r' f') (hmono' : ∀ x y H (Q Q' : VK), (∀ v H', Q v H' → Q' v H') → r' x y H Q → r' x y H Q')
    (ha : DE X a ga) (hb : DE X b gb) (hc : DE X c gc) (pc : ∀ {ta tb tc : TE}, PE X a ta → PE X b tb → PE X c tc → PT X (.Compare a [op, op'] [b, c] pos) (tTest (tChain r r' ta tb tc))) :
    DT X (.Compare a [op, op'] [b, c] pos) (dCh f f' ga gb gc) := by
  refine ⟨fun W tk => ?_⟩
  obtain ⟨ta, pa, ra⟩ := ha.ex W tk
  obtain ⟨tb, pb, rb⟩ := hb.ex W tk
  obtain ⟨tc, pcc, rc⟩ := hc.ex W tk
  refine ⟨_, pc pa pb pcc, fun σ H ρ S F m Q sl h p => ?_⟩
  refine ra σ H ρ S F m _ sl h (Post.bind p fun d S1 v H1 F1 m1 h1 x1 r1 p1 => ?_)
  refine rb σ H1 ρ S1 F1 m1 _ (sl.le x1.le) h1 (Post.bind p1 fun d2 S2 v2 H2 F2 m2 h2 x2 r2 p2 => ?_)
  refine hmono _ _ _ _ _ (fun v H' q => q) (hmono _ _ _ (fun v H' => ∃ k, v = .bl k ∧ (if k = true then tc σ H' (fun w H4 => r' v2 w H4 fun z H5 => ∃ k, z = .bl k ∧ Q k H5) else Q false H')) _ (fun v H' ⟨k, e, q⟩ => ⟨k, e, ?_⟩) (hf H2 S2 F2 m2 v v2 d d2 _ _ h2 (r1.le x2.le) r2 (Post.bind p2 fun k S3 k' H3 F3 m3 h3 x3 e p3 => ?_)))
  · by_cases hk : k = true
    · rw [if_pos hk] at q ⊢; exact q
    · rw [if_neg hk] at q ⊢; exact ⟨false, rfl, q⟩
  · subst e
    by_cases hk : k = true
    · rw [if_pos hk] at p3 ⊢
      refine rc σ H3 ρ S3 F3 m3 _ (sl.le (x1.le.trans (x2.le.trans x3.le))) h3 (Post.bind p3 fun d4 S4 v4 H4 F4 m4 h4 x4 r4 p4 => ?_)
      exact hf' H4 S4 F4 m4 v2 v4 d2 d4 _ _ h4 (r2.le (x3.le.trans x4.le)) r4 p4
    · rw [if_neg hk] at p3 ⊢
      exact p3 false H3 F3 m3 h3 (Ext.refl _ _ _) rfl
theorem dt_val (h : DE X e ga) (he : ∀ whole, isTrue e X.env whole = (do let v ← whole; standAt e.pos; holding [v] (truthy v)) := by intro _; rfl) : DT X e (dVal ga) := by
  refine ⟨fun W tk => ?_⟩
  obtain ⟨ta, pa, ra⟩ := h.ex W tk
  refine ⟨_, pt_val pa he, fun σ H ρ S F m Q sl h p => ?_⟩
  refine ra σ H ρ S F m _ sl h (Post.bind p fun d S1 v H1 F1 m1 h1 x1 r1 p1 => ?_)
  cases r1 <;> first | exact p1.elim | exact ⟨_, rfl, p1 _ H1 F1 m1 h1 (Ext.refl _ _ _) rfl⟩
theorem dt_w (h : DW X e gt) : DT X e gt := ⟨fun W tk => by
  obtain ⟨t, p, r⟩ := h.ex W tk
  exact ⟨t, p.pt, r⟩⟩
theorem dw_and1 (h : DT X a gt) : DW X (.BoolOp .And [a] pos) gt := ⟨fun W tk => by
  obtain ⟨t, p, r⟩ := h.ex W tk
  exact ⟨t, pw_and1 p, r⟩⟩
theorem dw_or1 (h : DT X a gt) : DW X (.BoolOp .Or [a] pos) gt := ⟨fun W tk => by
  obtain ⟨t, p, r⟩ := h.ex W tk
  exact ⟨t, pw_or1 p, r⟩⟩
theorem dw_and {rest : List Expr} (ha : DT X a gt) (hb : DW X (.BoolOp .And (b :: rest) pos) gu) : DW X (.BoolOp .And (a :: b :: rest) pos) (dAnd gt gu) := by
  refine ⟨fun W tk => ?_⟩
  obtain ⟨ta, pa, ra⟩ := ha.ex W tk
  obtain ⟨tb, pb, rb⟩ := hb.ex W tk
  refine ⟨_, pw_and pa pb, fun σ H ρ S F m Q sl h p => ?_⟩
  refine ra σ H ρ S F m _ sl h (Post.bind p fun d S1 k H1 F1 m1 h1 x1 e p1 => ?_)
  subst e
  by_cases hk : d = true
  · rw [if_pos hk] at p1 ⊢; exact rb σ H1 ρ S1 F1 m1 _ (sl.le x1.le) h1 p1
  · rw [if_neg hk] at p1 ⊢; exact p1 false H1 F1 m1 h1 (Ext.refl _ _ _) rfl
theorem dw_or {rest : List Expr} (ha : DT X a gt) (hb : DW X (.BoolOp .Or (b :: rest) pos) gu) : DW X (.BoolOp .Or (a :: b :: rest) pos) (dOr gt gu) := by
  refine ⟨fun W tk => ?_⟩
  obtain ⟨ta, pa, ra⟩ := ha.ex W tk
  obtain ⟨tb, pb, rb⟩ := hb.ex W tk
  refine ⟨_, pw_or pa pb, fun σ H ρ S F m Q sl h p => ?_⟩
  refine ra σ H ρ S F m _ sl h (Post.bind p fun d S1 k H1 F1 m1 h1 x1 e p1 => ?_)
  subst e
  by_cases hk : d = true
  · rw [if_pos hk] at p1 ⊢; exact p1 true H1 F1 m1 h1 (Ext.refl _ _ _) rfl
  · rw [if_neg hk] at p1 ⊢; exact rb σ H1 ρ S1 F1 m1 _ (sl.le x1.le) h1 p1
theorem dt_not (ha : DT X a gt) : DT X (.UnaryOp .Not a pos) (dNot gt) := by
  refine ⟨fun W tk => ?_⟩
  obtain ⟨ta, pa, ra⟩ := ha.ex W tk
  refine ⟨_, pt_not pa, fun σ H ρ S F m Q sl h p => ?_⟩
  refine ra σ H ρ S F m _ sl h (Post.bind p fun d S1 k H1 F1 m1 h1 x1 e p1 => ?_)
  subst e
  exact p1 (!d) H1 F1 m1 h1 (Ext.refl _ _ _) rfl
theorem de_if (hc : DT X c gt) (ha : DE X a ga) (hb : DE X b gb) : DE X (.IfExp c a b pos) (dIf gt ga gb) := by
  refine ⟨fun W tk => ?_⟩
  obtain ⟨tc, pc, rc⟩ := hc.ex W tk
  obtain ⟨ta, pa, ra⟩ := ha.ex W tk
  obtain ⟨tb, pb, rb⟩ := hb.ex W tk
  refine ⟨_, pe_ifExp pc pa pb, fun σ H ρ S F m Q sl h p => ?_⟩
  refine rc σ H ρ S F m _ sl h (Post.bind p fun d S1 k H1 F1 m1 h1 x1 e p1 => ?_)
  subst e
  by_cases hk : d = true
  · rw [if_pos hk] at p1 ⊢; exact ra σ H1 ρ S1 F1 m1 _ (sl.le x1.le) h1 p1
  · rw [if_neg hk] at p1 ⊢; exact rb σ H1 ρ S1 F1 m1 _ (sl.le x1.le) h1 p1
/-- and, or, not of truth values, as values -/
def dAndV (a b : Ev D) : Ev D := fun ρ S => (a ρ S).bind fun x S1 => (asB x S1).bind fun k S2 => if k = true then b ρ S2 else .ok (.bl false) S2
def dOrV (a b : Ev D) : Ev D := fun ρ S => (a ρ S).bind fun x S1 => (asB x S1).bind fun k S2 => if k = true then .ok (.bl true) S2 else b ρ S2
def dNotV (a : Ev D) : Ev D := fun ρ S => (a ρ S).bind fun x S1 => (asB x S1).bind fun k S2 => .ok (.bl (!k)) S2
theorem de_one {op : BoolOp} (h : DE X a ga) : DE X (.BoolOp op [a] pos) ga := ⟨fun W tk => by
  obtain ⟨t, p, r⟩ := h.ex W tk
  exact ⟨t, pe_one p, r⟩⟩
theorem de_and {rest : List Expr} (ha : DE X a ga) (hb : DE X (.BoolOp .And (b :: rest) pos) gb) : DE X (.BoolOp .And (a :: b :: rest) pos) (dAndV ga gb) := by
  refine ⟨fun W tk => ?_⟩
  obtain ⟨ta, pa, ra⟩ := ha.ex W tk
  obtain ⟨tb, pb, rb⟩ := hb.ex W tk
  refine ⟨_, pe_and pa pb, fun σ H ρ S F m Q sl h p => ?_⟩
  refine ra σ H ρ S F m _ sl h (Post.bind p fun d S1 v H1 F1 m1 h1 x1 r1 p1 => ?_)
  cases r1 with
  | bl k =>
    refine ⟨k, rfl, ?_⟩
    dsimp only [asB, Res.bind] at p1
    by_cases hk : k = true
    · rw [if_pos hk] at p1 ⊢; exact rb σ H1 ρ S1 F1 m1 _ (sl.le x1.le) h1 p1
    · rw [if_neg hk] at p1 ⊢; exact p1 _ H1 F1 m1 h1 (Ext.refl _ _ _) (.bl false)
  | _ => exact p1.elim
theorem de_or {rest : List Expr} (ha : DE X a ga) (hb : DE X (.BoolOp .Or (b :: rest) pos) gb) : DE X (.BoolOp .Or (a :: b :: rest) pos) (dOrV ga gb) := by
  refine ⟨fun W tk => ?_⟩
  obtain ⟨ta, pa, ra⟩ := ha.ex W tk
  obtain ⟨tb, pb, rb⟩ := hb.ex W tk
  refine ⟨_, pe_or pa pb, fun σ H ρ S F m Q sl h p => ?_⟩
  refine ra σ H ρ S F m _ sl h (Post.bind p fun d S1 v H1 F1 m1 h1 x1 r1 p1 => ?_)
  cases r1 with
  | bl k =>
    refine ⟨k, rfl, ?_⟩
    dsimp only [asB, Res.bind] at p1
    by_cases hk : k = true
    · rw [if_pos hk] at p1 ⊢; exact p1 _ H1 F1 m1 h1 (Ext.refl _ _ _) (.bl true)
    · rw [if_neg hk] at p1 ⊢; exact rb σ H1 ρ S1 F1 m1 _ (sl.le x1.le) h1 p1
  | _ => exact p1.elim
theorem de_not (ha : DE X a ga) : DE X (.UnaryOp .Not a pos) (dNotV ga) := by
  refine ⟨fun W tk => ?_⟩
  obtain ⟨ta, pa, ra⟩ := ha.ex W tk
  refine ⟨_, pe_not pa, fun σ H ρ S F m Q sl h p => ?_⟩
  refine ra σ H ρ S F m _ sl h (Post.bind p fun d S1 v H1 F1 m1 h1 x1 r1 p1 => ?_)
  cases r1 with
  | bl k => exact ⟨k, rfl, p1 _ H1 F1 m1 h1 (Ext.refl _ _ _) (.bl _)⟩
  | _ => exact p1.elim

/-! ### calls of built-ins -/
def dCall (f : List D → Sto → Res D) (gs : Ev (List D)) : Ev D := fun ρ S => (gs ρ S).bind f
theorem de_callB {x : Str} {id : String} {p : Pos} {r : List V → Hp → VK → Prop} {f : List D → Sto → Res D} (hc : CallR X (.builtin id) r) (hf : RLK X r f) (hg : Gl X x) (hm : X.mg x = none) (hv : bootBuiltins x = some (.builtin id)) (ha : DA X (e :: es) gs)
    (hpe : ∀ {t : TA}, PA X (e :: es) t → PE X (.Call (.Name x p) (e :: es) [] pos) (tCB r t)) : DE X (.Call (.Name x p) (e :: es) [] pos) (dCall f gs) := by
  refine ⟨fun W tk => ?_⟩
  obtain ⟨ta, pa, ra⟩ := ha.ex W tk
  refine ⟨_, hpe pa, fun σ H ρ S F m Q sl h p => ?_⟩
  exact ra σ H ρ S F m _ sl h (Post.bind p fun d S1 v H1 F1 m1 h1 x1 r1 p1 => hf H1 S1 F1 m1 v d Q _ h1 r1 p1)
end
end DL

/-! DL: statements, loops, comprehensions. -/
namespace DL
open PySem PySem.Spec PyProof.Rows L2
abbrev St' := DEnv → Sto → SR
def dNext : St' := fun ρ S => .nx ρ S
def dSeq (a b : St') : St' := fun ρ S => match a ρ S with
  | .nx ρ1 S1 => b ρ1 S1
  | r => r
def dDrop (e : Ev D) : St' := fun ρ S => (e ρ S).bindS ρ fun _ S1 => .nx ρ S1
def dRet (e : Ev D) : St' := fun ρ S => (e ρ S).bindS ρ fun d S1 => .rt d S1
def dRetN : St' := fun _ S => .rt .non S
def dIfS (c : Ev Bool) (a b : St') : St' := fun ρ S => (c ρ S).bindS ρ fun k S1 => if k = true then a ρ S1 else b ρ S1
def dBreak : St' := fun ρ S => .bk ρ S
def dCont : St' := fun ρ S => .ct ρ S
abbrev Tg := D → DEnv → Option DEnv
def gN (i : Nat) : Tg := fun d ρ => some (ρ.set i (some d))
def gsN : List D → DEnv → Option DEnv := fun ds ρ => match ds with
  | [] => some ρ
  | _ :: _ => none
def gsC (g : Tg) (r : List D → DEnv → Option DEnv) : List D → DEnv → Option DEnv := fun ds ρ => match ds with
  | [] => none
  | d :: ds => (g d ρ).bind (r ds)
def gT (r : List D → DEnv → Option DEnv) : Tg := fun d ρ => match d with
  | .tup ds => r ds ρ
  | _ => none
def dAsg (e : Ev D) (g : Tg) : St' := fun ρ S => (e ρ S).bindS ρ fun d S1 => match g d ρ with
  | some ρ' => .nx ρ' S1
  | none => .bad
def forGo (g : Tg) (b : St') : List D → St'
  | [], ρ, S => .nx ρ S
  | d :: ds, ρ, S => match g d ρ with
    | none => .bad
    | some ρ1 => match b ρ1 S with
      | .nx ρ2 S2 => forGo g b ds ρ2 S2
      | .ct ρ2 S2 => forGo g b ds ρ2 S2
      | .bk ρ2 S2 => .nx ρ2 S2
      | r => r
def dFor (s : Ev (List D)) (g : Tg) (b : St') : St' := fun ρ S => (s ρ S).bindS ρ fun ds S1 => forGo g b ds ρ S1
def whGo (c : Ev Bool) (b : St') : Nat → St'
  | 0, _, _ => .bad
  | n + 1, ρ, S => (c ρ S).bindS ρ fun k S1 => if k = true then (match b ρ S1 with
      | .nx ρ2 S2 => whGo c b n ρ2 S2
      | .ct ρ2 S2 => whGo c b n ρ2 S2
      | .bk ρ2 S2 => .nx ρ2 S2
      | r => r) else .nx ρ S1
def wipeE (ρ : DEnv) : List Nat → DEnv
  | [] => ρ
  | v :: vs => (wipeE ρ vs).set v none
def Res.nox {α : Type} : Res α → Res α
  | .exc _ _ => .bad
  | r => r
def lcGo (g : Tg) (t : Ev Bool) (e : Ev D) (ρ : DEnv) : List D → Sto → Res (List D)
  | [], S => .ok [] S
  | d :: ds, S => match g d ρ with
    | none => .bad
    | some ρ1 => (t ρ1 S).nox.bind fun k S1 => if k = true then (e ρ1 S1).nox.bind fun y S2 => (lcGo g t e ρ ds S2).bind fun ys S3 => .ok (y :: ys) S3 else lcGo g t e ρ ds S1
def dLc (s : Ev (List D)) (g : Tg) (t : Ev Bool) (e : Ev D) (vs : List Nat) : Ev (List D) := fun ρ S => (s ρ S).bind fun ds S1 => lcGo g t e (wipeE ρ vs) ds S1
def dYes : Ev Bool := fun _ S => .ok true S
section
variable {X : Cx} {pos : Pos} {e c tg it : Expr} {st : Stmt} {sts a b : List Stmt} {ge : Ev D} {gc : Ev Bool} {g1 g2 : St'}
theorem dss_nil : DSs X [] dNext := ⟨fun W _ => ⟨_, pss_nil, fun σ H ρ S F m N sl h p => p σ H F m sl h (Ext.refl _ _ _)⟩⟩
theorem dss_cons (h1 : DS X st g1) (h2 : DSs X sts g2) : DSs X (st :: sts) (dSeq g1 g2) := by
  refine ⟨fun W tk => ?_⟩
  obtain ⟨t, pt, rt⟩ := h1.ex W tk
  obtain ⟨u, pu, ru⟩ := h2.ex W tk
  refine ⟨_, pss_cons pt pu, fun σ H ρ S F m N sl h p => ?_⟩
  refine rt σ H ρ S F m _ sl h ?_
  unfold dSeq at p
  cases e1 : g1 ρ S with
  | nx ρ1 S1 =>
    rw [e1] at p
    exact fun σ1 H1 F1 m1 sl1 h1 x1 => ru σ1 H1 ρ1 S1 F1 m1 N sl1 h1 (SPost.later x1 p)
  | rt d S1 => rw [e1] at p; exact p
  | bk ρ1 S1 => rw [e1] at p; exact p
  | ct ρ1 S1 => rw [e1] at p; exact p
  | exc x ρ1 S1 => rw [e1] at p; exact p
  | bad => rw [e1] at p; exact p
theorem ds_pass : DS X (.Pass pos) dNext := ⟨fun W _ => ⟨_, ps_pass, fun σ H ρ S F m N sl h p => p σ H F m sl h (Ext.refl _ _ _)⟩⟩
theorem ds_break : DS X (.Break pos) dBreak := ⟨fun W _ => ⟨_, ps_break, fun σ H ρ S F m N sl h p => p σ H F m sl h (Ext.refl _ _ _)⟩⟩
theorem ds_cont : DS X (.Continue pos) dCont := ⟨fun W _ => ⟨_, ps_continue, fun σ H ρ S F m N sl h p => p σ H F m sl h (Ext.refl _ _ _)⟩⟩
theorem ds_doc {x : Str} {j : Nat} {p1 p2 : Pos} : DS X (.Expr (.Constant (.str x) j p1) p2) dNext := ⟨fun W _ => ⟨_, ps_doc, fun σ H ρ S F m N sl h p => p σ H F m sl h (Ext.refl _ _ _)⟩⟩
theorem ds_expr (h : DE X e ge) (hs : swapsWith e none pos.line X.env = pure false := by rfl) : DS X (.Expr e pos) (dDrop ge) := by
  refine ⟨fun W tk => ?_⟩
  obtain ⟨t, pt, rt⟩ := h.ex W tk
  refine ⟨_, ps_expr pt hs, fun σ H ρ S F m N sl h p => ?_⟩
  exact rt σ H ρ S F m _ sl h (Post.bindS sl p fun d S1 v H1 F1 m1 h1 x1 r1 p1 => p1 σ H1 F1 m1 (sl.le x1.le) h1 (Ext.refl _ _ _))
theorem ds_ret (h : DE X e ge) : DS X (.Return (some e) pos) (dRet ge) := by
  refine ⟨fun W tk => ?_⟩
  obtain ⟨t, pt, rt⟩ := h.ex W tk
  refine ⟨_, ps_ret pt, fun σ H ρ S F m N sl h p => ?_⟩
  exact rt σ H ρ S F m _ sl h (Post.bindS sl p fun d S1 v H1 F1 m1 h1 x1 r1 p1 => p1 v H1 F1 m1 h1 (Ext.refl _ _ _) r1)
theorem ds_retN : DS X (.Return none pos) dRetN := ⟨fun W _ => ⟨_, ps_retN, fun σ H ρ S F m N sl h p => p .non H F m h (Ext.refl _ _ _) .non⟩⟩
theorem ds_if (hc : DT X c gc) (ha : DSs X a g1) (hb : DSs X b g2) : DS X (.If c a b pos) (dIfS gc g1 g2) := by
  refine ⟨fun W tk => ?_⟩
  obtain ⟨t, pt, rt⟩ := hc.ex W tk
  obtain ⟨t1, pt1, rt1⟩ := ha.ex W tk
  obtain ⟨t2, pt2, rt2⟩ := hb.ex W tk
  refine ⟨_, ps_if pt pt1 pt2, fun σ H ρ S F m N sl h p => ?_⟩
  refine rt σ H ρ S F m _ sl h (Post.bindS sl p fun d S1 k H1 F1 m1 h1 x1 e1 p1 => ?_)
  subst e1
  by_cases hk : d = true
  · rw [if_pos hk] at p1 ⊢; exact rt1 σ H1 ρ S1 F1 m1 _ (sl.le x1.le) h1 p1
  · rw [if_neg hk] at p1 ⊢; exact rt2 σ H1 ρ S1 F1 m1 _ (sl.le x1.le) h1 p1

/-! ### targets -/
theorem wipe_get : ∀ (vs : List Nat) (σ : St) (j : Nat), (wipe σ vs)[j]? = if j ∈ vs then (if j < σ.length then some none else none) else σ[j]?
  | [], σ, j => by simp [wipe]
  | v :: vs, σ, j => by
    unfold wipe
    by_cases hv : v = j
    · subst hv
      rw [if_pos (by simp)]
      by_cases hl : v < σ.length
      · rw [if_pos hl, List.getElem?_set_self (by rw [wipe_length]; exact hl)]
      · rw [if_neg hl, List.getElem?_eq_none (by rw [List.length_set, wipe_length]; omega)]
    · rw [List.getElem?_set_ne hv, wipe_get vs σ j]
      by_cases hj : j ∈ vs
      · rw [if_pos hj, if_pos (List.mem_cons_of_mem _ hj)]
      · rw [if_neg hj, if_neg (fun z => (List.mem_cons.mp z).elim (fun q => hv q.symm) hj)]
theorem wipe_wipe (σ : St) (vs : List Nat) : wipe (wipe σ vs) vs = wipe σ vs := List.ext_getElem? fun j => by
  rw [wipe_get, wipe_get, wipe_length]
  by_cases hj : j ∈ vs
  · rw [if_pos hj]
    rw [if_pos hj]
  · rw [if_neg hj]
theorem wipe_set (σ : St) (vs : List Nat) (i : Nat) (x : Option V) (h : i ∈ vs) : wipe (σ.set i x) vs = wipe σ vs := List.ext_getElem? fun j => by
  rw [wipe_get, wipe_get, List.length_set]
  by_cases hj : j ∈ vs
  · rw [if_pos hj, if_pos hj]
  · rw [if_neg hj, if_neg hj, List.getElem?_set_ne (fun (z : i = j) => hj (z ▸ h))]
theorem Slots.wipe {K : PySem.W.Frag} {F : Hp} {m : List Addr} {ρ : DEnv} {σ : St} (s : Slots K F m ρ σ) : ∀ vs : List Nat, Slots K F m (wipeE ρ vs) (L2.wipe σ vs)
  | [] => s
  | v :: vs => by unfold wipeE L2.wipe; exact Slots.none (Slots.wipe s vs) v Option.none
theorem dg_name (i : Nat) {x : Str} (hN : X.N.Nodup) (hi : X.N[i]? = some x := by rfl) (hx : Loc X.env.scope x := by first | exact Or.inl rfl | exact Or.inr rfl) (hf : X.fn x = true ∨ X.env.scope.names.lookup x = some .local := by first | exact .inl rfl | exact .inr rfl) : DG X (.Name x pos) (gN i) [i] := by
  refine ⟨_, pg_name hN hi hx hf, fun v σ H ρ S F m d ρ' Q sl h r e k => ?_⟩
  cases e
  exact k _ (sl.set i r) fun vs hv => wipe_set σ vs i _ (hv i (by simp))
theorem dgs_nil : DGs X [] gsN [] := by
  refine ⟨_, pgs_nil, fun vs σ H ρ S F m ds ρ' Q sl h r e k => ?_⟩
  cases r with
  | nil => cases e; exact ⟨rfl, k σ sl fun _ _ => rfl⟩
  | cons _ _ => cases e
theorem dgs_cons {es : List Expr} {g : Tg} {gs : List D → DEnv → Option DEnv} {ix jx : List Nat} (h1 : DG X e g ix) (h2 : DGs X es gs jx) (hs : (assignEach (e :: es) X.env).map (·.2) = assign e X.env :: (assignEach es X.env).map (·.2) := by rfl) : DGs X (e :: es) (gsC g gs) (ix ++ jx) := by
  obtain ⟨t, pt, rt⟩ := h1.ex
  obtain ⟨u, pu, ru⟩ := h2.ex
  refine ⟨_, pgs_cons pt pu hs, fun vs σ H ρ S F m ds ρ' Q sl h r e k => ?_⟩
  cases r with
  | nil => cases e
  | cons r1 r2 =>
    rename_i d v ds vs
    unfold gsC at e
    obtain ⟨ρ1, e1, e2⟩ := Option.bind_eq_some_iff.mp e
    refine ⟨_, _, rfl, rt _ σ H ρ S F m _ ρ1 _ sl h r1 e1 fun σ1 s1 w1 => ?_⟩
    refine ru _ σ1 H ρ1 S F m _ ρ' _ s1 h r2 e2 fun σ2 s2 w2 => k σ2 s2 fun us hu => ?_
    rw [w2 us fun i hi => hu i (List.mem_append_right _ hi), w1 us fun i hi => hu i (List.mem_append_left _ hi)]
theorem gsLen : ∀ {es : List Expr} {gs : List D → DEnv → Option DEnv} {jx : List Nat}, True → True := fun _ => trivial
theorem dg_tup {es : List Expr} {kk : Nat} {gs : List D → DEnv → Option DEnv} {ix : List Nat} {n : Nat} (hc : X.calm = true) (h : DGs X es gs ix) (hl : ∀ ds ρ ρ', gs ds ρ = some ρ' → ds.length = n)
    (hn : (assignEach es X.env).length = n := by rfl) (hst : (assignEach es X.env).findIdx? (·.1) = none := by rfl) : DG X (.Tuple es kk pos) (gT gs) ix := by
  obtain ⟨t, pt, rt⟩ := h.ex
  refine ⟨_, pg_tup hc pt hn hst, fun v σ H ρ S F m d ρ' Q sl h r e k => ?_⟩
  cases r with
  | tup hz hq hr =>
    rename_i a ds vs
    have e' : gs ds ρ = some ρ' := e
    exact ⟨_, _, rfl, .inl (.inl (h.fz _ _ hq)), by rw [← hr.length]; exact hl _ _ _ e', rt _ σ H ρ S F m _ ρ' _ sl h hr e' k⟩
  | _ => cases e
theorem gsC_len {g : Tg} {gs : List D → DEnv → Option DEnv} {n : Nat} (h : ∀ ds ρ ρ', gs ds ρ = some ρ' → ds.length = n) : ∀ ds ρ ρ', gsC g gs ds ρ = some ρ' → ds.length = n + 1
  | [], _, _, e => by cases e
  | d :: ds, ρ, ρ', e => by
    obtain ⟨ρ1, _, e2⟩ := Option.bind_eq_some_iff.mp (show (g d ρ).bind (gs ds) = some ρ' from e)
    rw [List.length_cons, h _ _ _ e2]
theorem gsN_len : ∀ ds ρ ρ', gsN ds ρ = some ρ' → ds.length = 0
  | [], _, _, _ => rfl
  | _ :: _, _, _, e => by cases e
theorem ds_asg {g : Tg} {ix : List Nat} (h : DE X e ge) (hg : DG X tg g ix) (hs : swapsWithSole [tg] e pos.line X.env = pure false := by rfl) (hw : swappedStores [tg] e X.env = pure none := by rfl)
    (h1 : (assignEach [tg] X.env).map (·.2) = [assign tg X.env] := by rfl) : DS X (.Assign [tg] e pos) (dAsg ge g) := by
  refine ⟨fun W tk => ?_⟩
  obtain ⟨t, pt, rt⟩ := h.ex W tk
  obtain ⟨u, pu, ru⟩ := hg.ex
  refine ⟨_, ps_asg pt pu hs hw h1, fun σ H ρ S F m N sl h p => ?_⟩
  refine rt σ H ρ S F m _ sl h (Post.bindS sl p fun d S1 v H1 F1 m1 h1 x1 r1 p1 => ?_)
  cases eg : g d ρ with
  | none => rw [eg] at p1; exact p1.elim
  | some ρ' =>
    rw [eg] at p1
    exact ru v σ H1 ρ S1 F1 m1 d ρ' _ (sl.le x1.le) h1 r1 eg fun σ' sl' _ => p1 σ' H1 F1 m1 sl' h1 (Ext.refl _ _ _)

/-! ### for -/
theorem ds_for {k : Nat} {body : List Stmt} {src : Ev (List D)} {g : Tg} {gb : St'} {ix : List Nat} (ok : XOk X k) (hi : DI X tg it src) (hg : DG X tg g ix) (hb : DSs X body gb)
    (hs : ∀ x, foldedSetIterable it X.env x = pure x := by intro _; rfl) : DS X (.For tg it body [] pos) (dFor src g gb) := by
  refine ⟨fun W tk => ?_⟩
  obtain ⟨wi, pi, ri⟩ := hi.ex W tk
  obtain ⟨tg', pg, rg⟩ := hg.ex
  obtain ⟨tb, pb, rb⟩ := hb.ex W tk
  refine ⟨_, ps_for ok.po ok.calm pi pg pb hs, fun σ H ρ S F m N sl h p => ?_⟩
  refine ri σ H ρ S F m _ sl h ?_
  unfold dFor at p
  cases es : src ρ S with
  | bad => rw [es] at p; exact p
  | exc x S1 => rw [es] at p; exact fun cv dx H' F' m' hs x q => p cv dx σ H' F' m' (sl.le x.le) hs x q
  | ok ds S1 =>
    rw [es] at p
    intro J H1 F1 m1 h1 x1 wk
    have p1 : SPost X.mg X.K H1 F1 m1 (forGo g gb ds ρ S1) N W := SPost.later x1 p
    refine ⟨fun i n σ' H' => n = ds.length - i ∧ i ≤ ds.length ∧ ∃ ρ' S' F' m', Slots X.K F' m' ρ' σ' ∧ HSt X.K H' S' F' m' ∧ Ext H1 H' F1 F' m1 m' ∧ SPost X.mg X.K H' F' m' (forGo g gb (ds.drop i) ρ' S') N W,
      ⟨_, rfl, Nat.zero_le _, ρ, S1, F1, m1, sl.le x1.le, h1, Ext.refl _ _ _, p1⟩, ?_⟩
    rintro i n σ2 H2 ⟨rfl, hil, ρ2, S2, F2, m2, sl2, h2, x2, p2⟩
    by_cases hlt : i < ds.length
    · refine .inr ⟨wk.go i H2 S2 F2 m2 hlt x2 h2, _, fun σ' H' q => q, ?_⟩
      intro x H3 hy
      obtain ⟨F3, d, h3, x3, ed, r3⟩ := wk.yld i H2 S2 F2 m2 x H3 hlt x2 h2 hy
      have edr : ds.drop i = d :: ds.drop (i + 1) := by
        obtain ⟨hi', e'⟩ := List.getElem?_eq_some_iff.mp ed
        rw [List.drop_eq_getElem_cons hi', e']
      rw [edr] at p2
      unfold forGo at p2
      cases eg : g d ρ2 with
      | none => rw [eg] at p2; exact p2.elim
      | some ρ3 =>
        rw [eg] at p2
        refine rg x σ2 H3 ρ2 S2 F3 m2 d ρ3 _ (sl2.le x3.le) h3 r3 eg fun σ3 sl3 _ => ?_
        refine rb σ3 H3 ρ3 S2 F3 m2 _ sl3 h3 ?_
        have p3 := SPost.later x3 p2
        have lt : ds.length - (i + 1) < ds.length - i := by omega
        dsimp only at p3
        revert p3
        cases eb : gb ρ3 S2 with
        | nx ρ4 S4 => exact fun p3 σ4 H4 F4 m4 sl4 h4 x4 => ⟨_, lt, rfl, hlt, ρ4, S4, F4, m4, sl4, h4, x2.trans (x3.trans x4), SPost.later x4 p3⟩
        | ct ρ4 S4 => exact fun p3 σ4 H4 F4 m4 sl4 h4 x4 => ⟨_, lt, rfl, hlt, ρ4, S4, F4, m4, sl4, h4, x2.trans (x3.trans x4), SPost.later x4 p3⟩
        | bk ρ4 S4 => exact fun p3 => p3
        | rt d4 S4 => exact fun p3 => p3
        | exc x4 ρ4 S4 => exact fun p3 => p3
        | bad => exact fun p3 => p3
    · have ei : i = ds.length := by omega
      subst ei
      rw [List.drop_length] at p2
      exact .inl ⟨wk.stop _ H2 S2 F2 m2 (Nat.le_refl _) x2 h2, p2 σ2 H2 F2 m2 sl2 h2 (Ext.refl _ _ _)⟩

/-! ### while: n turns at most -/
theorem ds_while {k : Nat} {body : List Stmt} {gb : St'} (n : Nat) (ok : XOk X k) (hc : DT X c gc) (hb : DSs X body gb) : DS X (.While c body [] pos) (whGo gc gb n) := by
  refine ⟨fun W tk => ?_⟩
  obtain ⟨tc, pc, rc⟩ := hc.ex W tk
  obtain ⟨tb, pb, rb⟩ := hb.ex W tk
  refine ⟨_, ps_while ok.po pc pb, fun σ H ρ S F m N sl h p => ?_⟩
  refine ⟨fun n σ' H' => ∃ ρ' S' F' m', Slots X.K F' m' ρ' σ' ∧ HSt X.K H' S' F' m' ∧ SPost X.mg X.K H' F' m' (whGo gc gb n ρ' S') N W, ⟨n, ρ, S, F, m, sl, h, p⟩, ?_⟩
  rintro n σ2 H2 ⟨ρ2, S2, F2, m2, sl2, h2, p2⟩
  cases n with
  | zero => exact p2.elim
  | succ n =>
    unfold whGo at p2
    refine rc σ2 H2 ρ2 S2 F2 m2 _ sl2 h2 (Post.bindS sl2 p2 fun d S3 kk H3 F3 m3 h3 x3 e3 p3 => ?_)
    subst e3
    by_cases hk : d = true
    · rw [if_pos hk] at p3 ⊢
      refine ⟨_, fun σ' H' q => q, rb σ2 H3 ρ2 S3 F3 m3 _ (sl2.le x3.le) h3 ?_⟩
      revert p3
      cases eb : gb ρ2 S3 with
      | nx ρ4 S4 => exact fun p3 σ4 H4 F4 m4 sl4 h4 x4 => ⟨n, Nat.lt_succ_self _, ρ4, S4, F4, m4, sl4, h4, SPost.later x4 p3⟩
      | ct ρ4 S4 => exact fun p3 σ4 H4 F4 m4 sl4 h4 x4 => ⟨n, Nat.lt_succ_self _, ρ4, S4, F4, m4, sl4, h4, SPost.later x4 p3⟩
      | bk ρ4 S4 => exact fun p3 => p3
      | rt d4 S4 => exact fun p3 => p3
      | exc x4 ρ4 S4 => exact fun p3 => p3
      | bad => exact fun p3 => p3
    · rw [if_neg hk] at p3 ⊢
      exact p3 σ2 H3 F3 m3 (sl2.le x3.le) h3 (Ext.refl _ _ _)

/-! ### comprehensions -/
theorem takes_no {X : Cx} (hx : X.xe = fun _ _ => False) : Takes X (fun _ _ _ _ => False) := fun u s' ⟨_, _, _, _, _, _, _, _, _, _, _, _, _, _, _, _, w⟩ => w.elim
theorem nox_post {α β : Type} {R : Hp → List Addr → α → β → Prop} {mg : Str → Option Value} {K : PySem.W.Frag} {H F : Hp} {m : List Addr} {r : Res α} {Q : β → Hp → Prop} {E E' : XW} (p : Post R mg K H F m r.nox Q E) : Post R mg K H F m r Q E' := by
  cases r with
  | ok a S => exact p
  | exc x S => exact p.elim
  | bad => exact p
/-- a comprehension's block: what its parts need whatever the block's own frame is -/
abbrev AllBlk (X : Cx) (scope : Scope) (P : Cx → Prop) : Prop := ∀ (s : Shared) (H : Hp) (C : Addr) (cl : List (Str × Addr)) (fp : List Addr), P (X.blk s H scope (compEnvC scope cl C X.env) fp)
structure DTs (X : Cx) (es : List Expr) (g : Ev Bool) : Prop where
  ex : ∀ W, Takes X W → ∃ t, PTs X es t ∧ ∀ σ H ρ S F m Q, Slots X.K F m ρ σ → HSt X.K H S F m → Post (fun _ _ (a b : Bool) => a = b) X.mg X.K H F m (g ρ S) Q (fun c d H' => W c d σ H') → t σ H Q
theorem dts_nil : DTs X [] dYes := ⟨fun W _ => ⟨_, pts_nil, fun σ H ρ S F m Q sl h p => p true H F m h (Ext.refl _ _ _) rfl⟩⟩
theorem dts_one (h : DT X c gc) : DTs X [c] gc := ⟨fun W tk => by
  obtain ⟨t, p, r⟩ := h.ex W tk
  exact ⟨t, pts_one p, r⟩⟩
/-- the parts' readings for all frames of the block at once -/
theorem blk_e {scope : Scope} (h : AllBlk X scope fun Y => DE Y e ge) : ∃ t, AllBlk X scope (fun Y => PE Y e t) ∧ ∀ σ H ρ S F m Q E, Slots X.K F m ρ σ → HSt X.K H S F m → Post (Rep X.K) X.mg X.K H F m (ge ρ S).nox Q E → t σ H Q := by
  have z := fun s H C cl fp => (h s H C cl fp).ex _ (takes_no rfl)
  refine ⟨fun σ H0 Q => ∀ s H C cl fp, Classical.choose (z s H C cl fp) σ H0 Q, fun s H C cl fp => ⟨fun pins s' σ H0 Q I q => (Classical.choose_spec (z s H C cl fp)).1.run pins s' σ H0 Q I (q s H C cl fp)⟩, fun σ H0 ρ S F m Q E sl hs p s H C cl fp => ?_⟩
  exact (Classical.choose_spec (z s H C cl fp)).2 σ H0 ρ S F m Q sl hs (nox_post p)
theorem blk_t {scope : Scope} {es : List Expr} (h : AllBlk X scope fun Y => DTs Y es gc) : ∃ t, AllBlk X scope (fun Y => PTs Y es t) ∧ ∀ σ H ρ S F m Q E, Slots X.K F m ρ σ → HSt X.K H S F m → Post (fun _ _ (a b : Bool) => a = b) X.mg X.K H F m (gc ρ S).nox Q E → t σ H Q := by
  have z := fun s H C cl fp => (h s H C cl fp).ex _ (takes_no rfl)
  refine ⟨fun σ H0 Q => ∀ s H C cl fp, Classical.choose (z s H C cl fp) σ H0 Q, fun s H C cl fp => ⟨fun pins s' σ H0 Q I q => (Classical.choose_spec (z s H C cl fp)).1.run pins s' σ H0 Q I (q s H C cl fp)⟩, fun σ H0 ρ S F m Q E sl hs p s H C cl fp => ?_⟩
  exact (Classical.choose_spec (z s H C cl fp)).2 σ H0 ρ S F m Q sl hs (nox_post p)
theorem blk_g {scope : Scope} {g : Tg} {ix : List Nat} (h : AllBlk X scope fun Y => DG Y tg g ix) : ∃ t, AllBlk X scope (fun Y => PG Y tg t) ∧ ∀ v σ H ρ S F m d ρ' (Q : St → Hp → Prop), Slots X.K F m ρ σ → HSt X.K H S F m → Rep X.K F m d v → g d ρ = some ρ' →
    (∀ σ', Slots X.K F m ρ' σ' → (∀ vs : List Nat, (∀ i ∈ ix, i ∈ vs) → wipe σ' vs = wipe σ vs) → Q σ' H) → t v σ H Q := by
  have z := fun s H C cl fp => (h s H C cl fp).ex
  refine ⟨fun v σ H0 Q => ∀ s H C cl fp, Classical.choose (z s H C cl fp) v σ H0 Q, fun s H C cl fp => ⟨fun pins s' σ H0 v u Q I r q => (Classical.choose_spec (z s H C cl fp)).1.run pins s' σ H0 v u Q I r (q s H C cl fp)⟩, fun v σ H0 ρ S F m d ρ' Q sl hs r e k s H C cl fp => ?_⟩
  exact (Classical.choose_spec (z s H C cl fp)).2 v σ H0 ρ S F m d ρ' Q sl hs r e k
theorem lcGo_cons {g : Tg} {t : Ev Bool} {e : Ev D} {ρ : DEnv} {d : D} {ds : List D} {S : Sto} : lcGo g t e ρ (d :: ds) S = match g d ρ with
    | none => .bad
    | some ρ1 => (t ρ1 S).nox.bind fun k S1 => if k = true then (e ρ1 S1).nox.bind fun y S2 => (lcGo g t e ρ ds S2).bind fun ys S3 => .ok (y :: ys) S3 else lcGo g t e ρ ds S1 := rfl
/-- the reading of a comprehension -/
theorem lc_read {mg : Str → Option Value} {K : PySem.W.Frag} {wi : TI} {g : TG} {tt : TT} {te : TE} {vs ix : List Nat} {src : Ev (List D)} {gg : Tg} {W : WX}
    (ri : ∀ σ H ρ S F m (R : It → Hp → Prop), Slots K F m ρ σ → HSt K H S F m →
      (match src ρ S with
        | .ok ds S' => ∀ J H' F' m', HSt K H' S' F' m' → Ext H H' F F' m m' → Walks K J ds H' F' m' → R J H'
        | .exc x S' => ∀ cv dx H' F' m', HSt K H' S' F' m' → Ext H H' F F' m m' → RepX K F' m' x cv dx → W cv dx σ H'
        | .bad => False) → wi σ H R)
    (rg : ∀ v σ H ρ S F m d ρ' (Q : St → Hp → Prop), Slots K F m ρ σ → HSt K H S F m → Rep K F m d v → gg d ρ = some ρ' → (∀ σ', Slots K F m ρ' σ' → (∀ vs : List Nat, (∀ i ∈ ix, i ∈ vs) → wipe σ' vs = wipe σ vs) → Q σ' H) → g v σ H Q)
    (rt : ∀ σ H ρ S F m Q E, Slots K F m ρ σ → HSt K H S F m → Post (fun _ _ (a b : Bool) => a = b) mg K H F m (gc ρ S).nox Q E → tt σ H Q)
    (re : ∀ σ H ρ S F m Q E, Slots K F m ρ σ → HSt K H S F m → Post (Rep K) mg K H F m (ge ρ S).nox Q E → te σ H Q) (hix : ∀ i ∈ ix, i ∈ vs) :
    ∀ σ H ρ S F m Q, Slots K F m ρ σ → HSt K H S F m → PostN mg K H F m (dLc src gg gc ge vs ρ S) Q (fun c d H' => W c d σ H') → tLc wi g tt te vs σ H Q := by
  intro σ H ρ S F m Q sl h p
  refine ri σ H ρ S F m _ sl h ?_
  unfold dLc at p
  cases es : src ρ S with
  | bad => rw [es] at p; exact p
  | exc x S1 => rw [es] at p; exact p
  | ok ds S1 =>
    rw [es] at p
    intro J H1 F1 m1 h1 x1 wk D0 nD
    have p1 := PostN.later x1 p
    dsimp only [Res.bind] at p1
    have nF : F1 D0 = none := by
      cases e : F1 D0 with
      | none => rfl
      | some u => rw [h1.fz D0 u e] at nD; cases nD
    have nM : D0 ∉ m1 := fun z => h1.dom D0 z nD
    refine ⟨fun i n H' => n = ds.length - i ∧ i ≤ ds.length ∧ ∃ S' F' m' acc accV, HSt K H' S' F' m' ∧ Ext H1 H' F1 F' m1 m' ∧ F' D0 = none ∧ D0 ∉ m' ∧ H' D0 = some (.lst accV) ∧ RepL K F' m' acc accV ∧ acc.length ≤ i ∧
        lcGo gg gc ge (wipeE ρ vs) ds S1 = (lcGo gg gc ge (wipeE ρ vs) (ds.drop i) S').bind fun ys S9 => .ok (acc ++ ys) S9,
      ⟨_, rfl, Nat.zero_le _, S1, F1, m1, [], [], h1.side nF nM, (Ext.refl _ _ _).side nD, nF, nM, upd_same, .nil, Nat.le_refl _, ?_⟩, ?_⟩
    · rw [List.drop_zero]
      cases lcGo gg gc ge (wipeE ρ vs) ds S1 <;> rfl
    rintro i n H2 ⟨rfl, hil, S2, F2, m2, acc, accV, h2, x2, n2, o2, d2, r2, l2, eq2⟩
    by_cases hlt : i < ds.length
    · refine .inr ⟨wk.go i H2 S2 F2 m2 hlt x2 h2, _, fun H' q => q, ?_⟩
      intro x H3 hy
      obtain ⟨F3, d, h3, x3, ed, r3⟩ := wk.yld i H2 S2 F2 m2 x H3 hlt x2 h2 hy
      have edr : ds.drop i = d :: ds.drop (i + 1) := by
        obtain ⟨hi', e'⟩ := List.getElem?_eq_some_iff.mp ed
        rw [List.drop_eq_getElem_cons hi', e']
      rw [edr] at eq2
      rw [lcGo_cons] at eq2
      have lt : ds.length - (i + 1) < ds.length - i := by omega
      obtain ⟨n3, o3⟩ := x3.out n2 o2 (by rw [d2]; simp)
      have d3 : H3 D0 = some (.lst accV) := x3.k _ _ d2 o2
      cases eg : gg d (wipeE ρ vs) with
      | none =>
        rw [eg] at eq2
        rw [show lcGo gg gc ge (wipeE ρ vs) ds S1 = .bad from eq2] at p1
        exact p1.elim
      | some ρ3 =>
        rw [eg] at eq2
        dsimp only at eq2
        have slw : Slots K F3 m2 (wipeE ρ vs) (wipe σ vs) := ((sl.le x1.le).le (x2.le.trans x3.le)).wipe vs
        refine rg x (wipe σ vs) H3 (wipeE ρ vs) S2 F3 m2 d ρ3 _ slw h3 r3 eg fun σ3 sl3 w3 => ⟨by rw [w3 vs hix, wipe_wipe], ?_⟩
        refine rt σ3 H3 ρ3 S2 F3 m2 _ (fun _ _ _ => True) sl3 h3 ?_
        cases et : (gc ρ3 S2).nox with
        | bad =>
          rw [et] at eq2
          rw [show lcGo gg gc ge (wipeE ρ vs) ds S1 = .bad from eq2] at p1
          exact p1.elim
        | exc y S4 =>
          rw [et] at eq2
          cases eq9 : gc ρ3 S2 <;> rw [eq9] at et <;> cases et
        | ok k S4 =>
          rw [et] at eq2
          dsimp only [Res.bind] at eq2
          intro b H4 F4 m4 h4 x4 eb
          subst eb
          obtain ⟨n4, o4⟩ := x4.out n3 o3 (by rw [d3]; simp)
          have d4 : H4 D0 = some (.lst accV) := x4.k _ _ d3 o3
          by_cases hk : k = true
          · rw [if_pos hk] at eq2 ⊢
            refine re σ3 H4 ρ3 S4 F4 m4 _ (fun _ _ _ => True) (sl3.le x4.le) h4 ?_
            cases ee : (ge ρ3 S4).nox with
            | bad =>
              rw [ee] at eq2
              rw [show lcGo gg gc ge (wipeE ρ vs) ds S1 = .bad from eq2] at p1
              exact p1.elim
            | exc y S5 => cases eq9 : ge ρ3 S4 <;> rw [eq9] at ee <;> cases ee
            | ok y S5 =>
              rw [ee] at eq2
              intro v H5 F5 m5 h5 x5 r5
              obtain ⟨n5, o5⟩ := x5.out n4 o4 (by rw [d4]; simp)
              have d5 : H5 D0 = some (.lst accV) := x5.k _ _ d4 o4
              have xx := x3.trans (x4.trans x5)
              refine ⟨accV, d5, ?_, _, lt, rfl, hlt, S5, F5, m5, acc ++ [y], accV ++ [v], h5.side n5 o5, (x2.trans xx).side nD, n5, o5, upd_same, (r2.le xx.le).append (.cons r5 .nil), by rw [List.length_append]; exact Nat.succ_le_succ l2, ?_⟩
              · rw [← r2.length]
                exact Nat.lt_of_lt_of_le (Nat.lt_of_le_of_lt l2 hlt) wk.len
              · rw [eq2]
                dsimp only [Res.bind]
                cases lcGo gg gc ge (wipeE ρ vs) (ds.drop (i + 1)) S5 with
                | ok ys S9 => simp [Res.bind]
                | exc _ _ => rfl
                | bad => rfl
          · rw [if_neg hk] at eq2 ⊢
            have xx := x3.trans x4
            exact ⟨_, lt, rfl, hlt, S4, F4, m4, acc, accV, h4, x2.trans xx, n4, o4, d4, r2.le xx.le, Nat.le_succ_of_le l2, eq2⟩
    · have ei : i = ds.length := by omega
      subst ei
      rw [List.drop_length] at eq2
      have e3 : lcGo gg gc ge (wipeE ρ vs) ds S1 = .ok acc S2 := by rw [eq2]; simp [lcGo, Res.bind]
      rw [e3] at p1
      refine .inl ⟨wk.stop _ H2 S2 F2 m2 (Nat.le_refl _) x2 h2, ?_⟩
      exact p1 D0 accV H2 F2 m2 h2 x2 nD n2 o2 d2 r2 (Nat.le_trans l2 wk.len)
/-- .. in a calm block with room -/
abbrev AllBlkK (X : Cx) (k : Nat) (scope : Scope) (P : Cx → Prop) : Prop := ∀ (s : Shared) (H : Hp) (C : Addr) (cl : List (Str × Addr)) (fp : List Addr), XOk (X.blk s H scope (compEnvC scope cl C X.env) fp) k → P (X.blk s H scope (compEnvC scope cl C X.env) fp)
theorem blkOk {k : Nat} (ok : XOk X k) (s : Shared) (H : Hp) (scope : Scope) (C : Addr) (cl : List (Str × Addr)) (fp : List Addr) : XOk (X.blk s H scope (compEnvC scope cl C X.env) fp) k := ⟨ok.room, ok.grd, ok.calm, PassesOwn.never, ok.nd⟩
theorem AllBlkK.all {k : Nat} {scope : Scope} {P : Cx → Prop} (ok : XOk X k) (h : AllBlkK X k scope P) : AllBlk X scope P := fun s H C cl fp => h s H C cl fp (blkOk ok s H scope C cl fp)
theorem dn_lc {k : Nat} {scope : Scope} {own : List (Str × Nat)} {src : Ev (List D)} {gg : Tg} {ix : List Nat} {ifs : List Expr} (ok : XOk X k) (hi : DI X tg it src) (bk : blkC X.N X.env.scope scope own = true)
    (hg : AllBlkK X k scope fun Y => DG Y tg gg ix) (ht : AllBlkK X k scope fun Y => DTs Y ifs gc) (he : AllBlkK X k scope fun Y => DE Y e ge) (hix : ∀ i ∈ ix, i ∈ own.map (·.2) := by decide) (hs : ∀ x, foldedSetIterable it X.env x = pure x := by intro _; rfl) :
    DN X (.ListComp e [⟨tg, it, ifs, 0⟩] scope pos) (dLc src gg gc ge (own.map (·.2))) := by
  refine ⟨fun W tk => ?_⟩
  obtain ⟨wi, pi, ri⟩ := hi.ex W tk
  obtain ⟨g, pg, rg⟩ := blk_g (AllBlkK.all ok hg)
  obtain ⟨tt, pt, rt⟩ := blk_t (AllBlkK.all ok ht)
  obtain ⟨te, pe, re⟩ := blk_e (AllBlkK.all ok he)
  exact ⟨_, pe_lc ok.calm ok.nd pi (blkOk_by bk) pg pt pe hs, lc_read ri rg rt re hix⟩
/-- name = [..] -/
theorem ds_setLc {k : Nat} (i : Nat) {y : Str} {py spos : Pos} {scope : Scope} {own : List (Str × Nat)} {src : Ev (List D)} {gg : Tg} {ix : List Nat} {ifs : List Expr} {fin : Ev (List D) → Ev D}
    (hfin : ∀ {mg K H F m} {g : Ev (List D)} {ρ S Q E}, Post (Rep K) mg K H F m (fin g ρ S) Q E → PostN mg K H F m (g ρ S) Q E) (ok : XOk X k) (hi : DI X tg it src) (bk : blkC X.N X.env.scope scope own = true)
    (hg : AllBlkK X k scope fun Y => DG Y tg gg ix) (ht : AllBlkK X k scope fun Y => DTs Y ifs gc) (he : AllBlkK X k scope fun Y => DE Y e ge) (hk : X.env.scope.kind = .function := by rfl) (hix : ∀ i ∈ ix, i ∈ own.map (·.2) := by decide) (hy : X.N[i]? = some y := by rfl)
    (hyl : X.env.scope.names.lookup y = some .local := by rfl) (hl : (py.line == pos.line) = true := by decide) (hsn : (scope.names.any fun (n, k) => n == y && (k == .local || k == .cell)) = false := by decide +kernel) (hs : ∀ x, foldedSetIterable it X.env x = pure x := by intro _; rfl) :
    DS X (.Assign [.Name y py] (.ListComp e [⟨tg, it, ifs, 0⟩] scope pos) spos) (dAsg (fin (dLc src gg gc ge (own.map (·.2)))) (gN i)) := by
  refine ⟨fun W tk => ?_⟩
  obtain ⟨wi, pi, ri⟩ := hi.ex W tk
  obtain ⟨g, pg, rg⟩ := blk_g (AllBlkK.all ok hg)
  obtain ⟨tt, pt, rt⟩ := blk_t (AllBlkK.all ok ht)
  obtain ⟨te, pe, re⟩ := blk_e (AllBlkK.all ok he)
  refine ⟨_, ps_setLc (i := i) ok.calm ok.nd hy hyl (sw_true hk hyl hl hsn) pi (blkOk_by bk) pg pt pe hs, fun σ H ρ S F m N sl h p => ?_⟩
  refine lc_read ri rg rt re hix σ H ρ S F m _ sl h (hfin (Post.bindS sl p fun d S1 v H1 F1 m1 h1 x1 r1 p1 => ?_))
  exact p1 _ H1 F1 m1 ((sl.le x1.le).set i r1) h1 (Ext.refl _ _ _)
end
end DL

/-! DL: what a def does, its calls; the law's end. -/
namespace DL
open PySem PySem.Spec PyProof.Rows L2
def startE (n : Nat) (ds : List D) : DEnv := ds.map some ++ List.replicate (n - ds.length) none
/-- a body's end as a value -/
def endB : SR → Res D
  | .nx _ S => .ok .non S
  | .rt d S => .ok d S
  | .exc x _ S => .exc x S
  | _ => .bad
def runB (g : St') (n : Nat) (ds : List D) (S : Sto) : Res D := endB (g (startE n ds) S)
/-- the def at f, called with n arguments, does den; it wants k levels -/
structure FnG (P : Program) (w : World) (K : PySem.W.Frag) (mg : Str → Option Value) (base : Heap) (k : Nat) (f : Addr) (n : Nat) (den : List D → Sto → Res D) : Prop where
  run : ∀ (A : Around) (outer : List PySem.Env) (s : Shared) (H : Hp) (us : List Value) (vs : List V) (Q : VK) (E : XK) (F : Hp) (m : List Addr) (ds : List D) (S : Sto), Room k A → A.guards = some [] → Env0 P w K mg base A outer s H → Vals vs us → vs.length = n →
    HSt K H S F m → RepL K F m ds vs → Post (Rep K) mg K H F m (den ds S) Q E → codeAny (model P w) A (.call (.ref f) ⟨us, []⟩) (CR (L2.CX P w) outer P w H s Q E) s
theorem FnG.mono {P : Program} {w : World} {K : PySem.W.Frag} {mg : Str → Option Value} {base : Heap} {j k : Nat} {f : Addr} {n : Nat} {den : List D → Sto → Res D} (G : FnG P w K mg base j f n den) (h : j ≤ k) : FnG P w K mg base k f n den :=
  ⟨fun A outer s H us vs Q E F m ds S hr => G.run A outer s H us vs Q E F m ds S (hr.mono h)⟩
theorem slots_start {K : PySem.W.Frag} {F : Hp} {m : List Addr} {N : List Str} {ds : List D} {vs : List V} (r : RepL K F m ds vs) (h : vs.length ≤ N.length) : Slots K F m (startE N.length ds) (L2.start N vs) := by
  have hl := r.length
  refine ⟨by unfold startE L2.start; simp [hl], fun i d e => ?_⟩
  unfold startE at e
  by_cases hi : i < ds.length
  · rw [List.getElem?_append_left (by simpa using hi), List.getElem?_map] at e
    cases q : ds[i]? with
    | none => rw [q] at e; cases e
    | some d' =>
      rw [q] at e
      have e' : d' = d := Option.some.inj (Option.some.inj e)
      subst e'
      obtain ⟨v, ev, rv⟩ := r.get q
      refine ⟨v, ?_, rv⟩
      unfold L2.start
      rw [List.getElem?_append_left (by simpa [← hl] using hi), List.getElem?_map, ev]; rfl
  · rw [List.getElem?_append_right (by simpa using hi), List.getElem?_replicate] at e
    split at e <;> cases e
section
variable {P : Program} {w : World} {K : PySem.W.Frag} {mg : Str → Option Value} {base : Heap}
abbrev bodyX (P : Program) (w : World) (K : PySem.W.Frag) (mg : Str → Option Value) (base : Heap) (N : List Str) (qual : Str) (st : Stmt) (f : Addr) (cdv : Value) (A : Around) (outer : List PySem.Env) (s : Shared) (H : Hp) (E : XK) : Cx :=
  cxOf (L2.CX P w) P w K mg base N qual (defScope st) f cdv A outer s H E
theorem grd_deeper (A : Around) (env : PySem.Env) (h : A.guards = some []) : (A.deeper env).guards = some [] := by
  first
  | exact h
  | (simp [Around.deeper, Around.under, Code.guards, Code.isGuard, pushGuards, h])
/-- a def does what its body does -/
theorem fnG {x qual : Str} {st : Stmt} {f : Addr} {fd : FuncData} {N ps : List Str} {k : Nat} {g : St'} (Fn : Fun K x qual st f fd) (S : FnScope N ps (defScope st))
    (hb : ∀ (kV doc pm : Value) (an : Option Addr) (cdv ct : Value) (us : List Value), us.length = ps.length → bindArgs (PySem.W.fnOf x qual (defArgs st) (defBody st) (defScope st) .none kV doc pm an cdv ct) ⟨us, []⟩ = pure (ps.zip us))
    (hbody : ∀ (cdv : Value) (A : Around) (outer : List PySem.Env) (s : Shared) (H : Hp) (E : XK), XOk (bodyX P w K mg base N qual st f cdv A outer s H E) k → DSs (bodyX P w K mg base N qual st f cdv A outer s H E) (defBody st) g) :
    FnG P w K mg base (k + 1) f ps.length (runB g N.length) := by
  obtain ⟨oc, od, kV, doc, pm, an, cdv, ct, osl, rfl, lk, hcd⟩ := Fn.ex
  refine ⟨fun A outer s H us vs Q E F m ds T room grd e0 rv hn hst rep post => ?_⟩
  have inK : K.In s.heap := e0.mod.kin.keeps fun b o q => (e0.bs b o q).1
  have unl : s.heap.NoLimit := e0.mod.nolimit.keeps fun b o q => (e0.bs b o q).1
  have hus : us.length = ps.length := by rw [← rv.length, hn]
  have kinds : ∀ y ∈ ps.zip us, (defScope st).names.lookup y.1 = some .local ∨ ((defScope st).names.lookup y.1 = some .cell ∧ ((cellsFrom (s.heap.objs.size + 1) (defScope st).names []).lookup y.1).isSome = true) := by
    rintro ⟨y, v⟩ hy
    exact (S.par y (List.of_mem_zip hy).1).elim .inl fun q => .inr ⟨q, PySem.W.cellsFrom_some _ _ _ (.inl q)⟩
  refine codeAny_call_function room.depth (inK _ _ lk) rfl S.co S.gen rfl (PySem.W.codeRec_of inK hcd) (BindsTo.of_eq (hb kV doc pm an cdv ct us hus) _ _ _ _ ?_)
  refine wpAny_newFunctionEnv_cells S.kind kinds fun env henv s1 entered => ?_
  subst henv
  refine ⟨unl.keeps entered.toInCall.keep, codeAny_func ?_⟩
  have rm := room.deeper (envOfC qual (defScope st) s.heap.objs.size f cdv)
  have ok : XOk (bodyX P w K mg base N qual st f cdv A outer s H E) k := ⟨rm, grd_deeper A _ grd, rfl, passes_of rfl, S.nd⟩
  obtain ⟨t, ht, rd⟩ := (hbody cdv A outer s H E ok).ex _ (takes_of rfl rfl rfl rfl)
  have I : Inv (bodyX P w K mg base N qual st f cdv A outer s H E) [] (L2.start N vs) H s1 := inv_start S room.hd e0 hn rv entered
  have hvN : vs.length ≤ N.length := by
    have z := congrArg List.length S.pre
    rw [List.length_take] at z
    omega
  have want : SPost mg K H F m (g (startE N.length ds) T) { nx := fun _ H' => Q .non H', rt := Q } (fun c d _ H' => E c d H') := by
    unfold runB endB at post
    cases eg : g (startE N.length ds) T with
    | nx ρ S1 => rw [eg] at post; exact fun σ H' F' m' _ h1 x1 => post .non H' F' m' h1 x1 .non
    | rt d S1 => rw [eg] at post; exact post
    | exc y ρ S1 => rw [eg] at post; exact fun cv dx σ H' F' m' _ h1 x1 r1 => post cv dx H' F' m' h1 x1 r1
    | bk ρ S1 => rw [eg] at post; exact post.elim
    | ct ρ S1 => rw [eg] at post; exact post.elim
    | bad => rw [eg] at post; exact post.elim
  have hq := rd (L2.start N vs) H (startE N.length ds) T F m _ (slots_start rep hvN) hst want
  refine wpAny_mono (ht.run [] s1 (L2.start N vs) H _ I hq) (fun fl s' hs => ?_) fun e s' hs => hs
  cases fl with
  | next => obtain ⟨σ', H', J, q⟩ := hs; exact ⟨V.non, H', J.os, J.bare, J.base, J.hok, rfl, q⟩
  | ret u => obtain ⟨v, σ', H', J, rvu, q⟩ := hs; exact ⟨v, H', J.os, J.bare, J.base, J.hok, rvu, q⟩
  | brk => obtain ⟨_, _, _, q⟩ := hs; exact q.elim
  | cont => obtain ⟨_, _, _, q⟩ := hs; exact q.elim
end
section
variable {X : Cx} {pos p : Pos} {e : Expr} {es : List Expr} {gs : Ev (List D)} {k j : Nat}
/-- what is raised in a call is taken where the call stands -/
theorem air {W : WX} (tk : Takes X W) {pins : List (Addr × Obj)} {σ : St} {H : Hp} {s s' : Shared} {u : Value} (I : Inv X pins σ H s) (c : L2.CX X.prog X.w X.stack H s (fun cv d H' => W cv d σ H') u s') : X.xe u s' :=
  tk u s' (XE.of_call I (fun _ _ _ q => q) c)
theorem run_g {f : Addr} {n : Nat} {den : List D → Sto → Res D} {W : WX} {pins : List (Addr × Obj)} {s : Shared} {σ : St} {H : Hp} {Q : VK} {us : List Value} {vs : List V} {F : Hp} {m : List Addr} {ds : List D} {S : Sto} (G : FnG X.prog X.w X.K X.mg X.base k f n den) (ok : XOk X j) (hk : k ≤ j) (tk : Takes X W)
    (I : Inv X pins σ H s) (r : Vals vs us) (hn : vs.length = n) (hst : HSt X.K H S F m) (rep : RepL X.K F m ds vs) (post : Post (Rep X.K) X.mg X.K H F m (den ds S) Q (fun c d H' => W c d σ H')) : wpAny (model X.prog X.w) X.A (call (.ref f) us) (EP X pins σ Q) X.xe s := by
  refine wpAny_call (codeAny_mono (G.run X.A X.stack s H us vs Q (fun c d H' => W c d σ H') F m ds S (ok.room.mono hk) ok.grd I.env0 r hn hst rep post) fun z s' hz => ?_)
  cases z with
  | error u => exact air tk I hz
  | ok fl =>
    cases fl with
    | ret u => exact I.after hz
    | next => exact hz.elim
    | brk => exact hz.elim
    | cont => exact hz.elim
def tCG (X : Cx) (W : WX) (n : Nat) (den : List D → Sto → Res D) (t : TA) : TE := fun σ H Q => t σ H fun vs H1 => vs.length = n ∧ ∃ F m ds S, HSt X.K H1 S F m ∧ RepL X.K F m ds vs ∧ Post (Rep X.K) X.mg X.K H1 F m (den ds S) Q (fun c d H' => W c d σ H')
/-- f(e, ..) -/
theorem de_call {f : Addr} {x : Str} {den : List D → Sto → Res D} {n : Nat} (G : FnG X.prog X.w X.K X.mg X.base k f n den) (ok : XOk X j) (hk : k ≤ j) (hg : Gl X x) (hm : X.mg x = some (.ref f)) (kp : PySem.W.keepIn X.K (.ref f) = true) (ha : DA X (e :: es) gs) (hn : ∀ ρ S ds S', gs ρ S = .ok ds S' → ds.length = n)
    (hdb : (x == ("__debug__" : Str)) = false := by decide) (he : starEach (e :: es) X.env = (false, eval e X.env) :: starEach es X.env := by rfl) (hpl : (backTo pos (starEach es X.env)).any (·.1) = false := by rfl) :
    DE X (.Call (.Name x p) (e :: es) [] pos) (dCall den gs) := by
  refine ⟨fun W tk => ?_⟩
  obtain ⟨ta, pa, ra⟩ := ha.ex W tk
  refine ⟨tCG X W n den ta, ⟨fun pins s σ H Q I h => ?_⟩, fun σ H ρ S F m Q sl h q => ?_⟩
  · refine wpAny_Call_Name_kw (ld_glob I hg hm ?_ hdb)
    refine PySem.W.callWith_K (h₀ := X.base) I.ok.mod.kin kp (thn (pa.run pos pins s σ H _ I h) fun us s1 ⟨vs, H1, I1, r, hl, F, m, ds, S, hst, rep, q⟩ => ⟨I1.kIn, ?_⟩) he hpl
    exact run_g G ok hk tk I1 r hl hst rep q
  · cases eg : gs ρ S with
    | ok ds S1 =>
      have hl := hn _ _ _ _ eg
      refine ra σ H ρ S F m _ sl h ?_
      unfold dCall at q
      rw [eg] at q ⊢
      exact fun vs H1 F1 m1 h1 x1 r1 => ⟨by rw [← r1.length]; exact hl, F1, m1, ds, S1, h1, r1, Post.later x1 q⟩
    | exc y S1 => exact ra σ H ρ S F m _ sl h (by unfold dCall at q; rw [eg] at q ⊢; exact q)
    | bad => unfold dCall at q; rw [eg] at q; exact q.elim
theorem len_nil : ∀ ρ S ds S', dNil ρ S = .ok ds S' → ds.length = 0 := fun _ _ _ _ e => by cases e; rfl
theorem len_cons {a : Ev D} {r : Ev (List D)} {n : Nat} (h : ∀ ρ S ds S', r ρ S = .ok ds S' → ds.length = n) : ∀ ρ S ds S', dCons a r ρ S = .ok ds S' → ds.length = n + 1 := fun ρ S ds S' e => by
  unfold dCons at e
  cases ea : a ρ S with
  | ok d S1 =>
    rw [ea] at e
    dsimp only [Res.bind] at e
    cases er : r ρ S1 with
    | ok ds' S2 => rw [er] at e; cases e; rw [List.length_cons, h _ _ _ _ er]
    | exc _ _ => rw [er] at e; cases e
    | bad => rw [er] at e; cases e
  | exc _ _ => rw [ea] at e; cases e
  | bad => rw [ea] at e; cases e
end
end DL

/-! DL: a law's end. -/
namespace DL
open PySem PySem.Spec PyProof.Rows L2
theorem repL_ints {K : PySem.W.Frag} {F : Hp} {m : List Addr} : ∀ ns : List Int, RepL K F m (ns.map D.int) (ns.map V.int)
  | [] => .nil
  | n :: ns => .cons (.int n) (repL_ints ns)
section
variable {P : Program} {w : World} {K : PySem.W.Frag} {mg mb : Str → Option Value} {s : Shared} {a fa : Addr} {vs : List Value} {ns : List Int} {den : List D → Sto → Res D} {k : Nat}
/-- the law's call over an abstract heap in which nothing but the script is told of -/
theorem law_over (G : ∀ base : Heap, K.In base → base.Ns mainGlobals mg → (∀ b f, s.heap.Ns b f → base.Ns b f) → FnG P w K mg base k fa 1 den) (den_ok : ∃ T, den [.scr (ns.map .int)] [] = .ok (.bl true) T) (inK : K.In s.heap) (glb : s.heap.Ns mainGlobals mg) (blt : s.heap.Ns builtinsNs mb)
    (bb : ∀ x : Str, x ≠ "__name__" → mb x = bootBuiltins x) (unl : s.heap.NoLimit) (gn : s.gens = #[]) (scr : s.heap.get? a = some { cls := .type "list", data := .seq vs.toArray }) (few : ns.length ≤ sizeLine) (room : Room k callerA)
    (H : Hp) (only : Only H) (sq : SqL K H a (ns.map V.int)) (ok : HOk P w H s.heap) (hA : ∀ b o, H b = some o → b = a) (hK : ∀ o, H a = some o → K.lookup a = none) :
    codeAny (model P w) callerA (.call (.ref fa) ⟨[.ref a], []⟩) (fun r t => r = .ok (.ret (.bool true)) ∧ OldK s.heap t.heap ∧ t.os = s.os ∧ AllBare t.gens) s := by
  -- the base: the heap without the script
  have inBase : ∀ {b : Addr} {o : Obj}, s.heap.get? b = some o → H b = none → (hidT s.heap H).get? b = some o := fun q n => hidT_get q n
  have notDict : ∀ {b : Addr} {o : Obj} {es : Array DictEntry} {ep : Nat}, s.heap.get? b = some o → o.data = .dict es ep → H b = none := fun {b o es ep} q d => by
    cases z : H b with
    | none => rfl
    | some u =>
      rw [hA b u z, scr] at q
      cases q
      exact absurd d (fun (y : Data.seq vs.toArray _ = Data.dict es ep) => by cases y)
  have nsB : ∀ {b : Addr} {f : Str → Option Value}, s.heap.Ns b f → (hidT s.heap H).Ns b f := fun {b f} ⟨o, es, ep, q, d, r⟩ => ⟨o, es, ep, inBase q (notDict q d), d, r⟩
  have kB : K.In (hidT s.heap H) := fun b o q => inBase (inK b o q) (by
    cases z : H b with
    | none => rfl
    | some u =>
      have e := hA b u z
      subst e
      rw [hK u z] at q; cases q)
  have md : Mod K mg (hidT s.heap H) := ⟨kB, nsB glb, ⟨mb, nsB blt, bb⟩, by
    obtain ⟨mc, q1, q2⟩ := unl
    exact ⟨mc, nsB q1, q2⟩⟩
  have noE : ∀ b : Addr, b ∉ frs ([] : List PySem.Env) := fun b z => by cases z
  have en : Env0 P w K mg (hidT s.heap H) callerA [] s H := ⟨rfl, md, fun b o q => of_hidT q, Nat.le_of_eq (hidT_size _ _), trivial, fun b z => absurd z (noE b), ok, .of_eq gn⟩
  have hst : HSt K H [] H [] := ⟨fun _ _ q => q, rfl, List.nodup_nil, fun n b o q => by simp at q, fun b z => by cases z⟩
  have rep : RepL K H [] [.scr (ns.map .int)] [.ref a] := .cons (.scr (by rw [List.length_map]; exact few) sq (repL_ints ns)) .nil
  obtain ⟨T, eT⟩ := den_ok
  have want : Post (Rep K) mg K H H [] (den [.scr (ns.map .int)] []) (fun v _ => v = .bl true) (fun _ _ _ => False) := by
    rw [eT]
    intro v H' F' m' _ _ r
    cases r
    rfl
  refine codeAny_mono ((G _ kB (nsB glb) fun _ _ => nsB).run callerA [] s H [.ref a] [.ref a] _ _ H [] _ [] room rfl en (.cons rfl .nil) rfl hst rep want) fun r t hr => ?_
  cases r with
  | error u =>
    obtain ⟨_, _, _, _, _, _, _, _, _, _, _, _, f⟩ := hr
    exact f.elim
  | ok fl =>
    cases fl with
    | ret u =>
      obtain ⟨v, H', os, bare, un, ok', rv, q⟩ := hr
      have q' : v = .bl true := q
      subst q'
      obtain rfl : u = Value.bool true := rv
      refine ⟨rfl, OldK.of_keep fun b o q => ?_, os, bare⟩
      cases z : H b with
      | none => exact un.keep b o q z (noE b) (by simp)
      | some y =>
        rcases only b with z' | ⟨ob, xs, z'⟩
        · rw [z] at z'; cases z'
        · obtain ⟨q1, _⟩ := ok b _ z'
          obtain ⟨q2, _⟩ := ok' b _ (un.frzs b ob _ z')
          rw [q] at q1; cases q1
          exact q2
    | next => exact hr.elim
    | brk => exact hr.elim
    | cont => exact hr.elim
theorem law_go (G : ∀ base : Heap, K.In base → base.Ns mainGlobals mg → (∀ b f, s.heap.Ns b f → base.Ns b f) → FnG P w K mg base k fa 1 den) (den_ok : ∃ T, den [.scr (ns.map .int)] [] = .ok (.bl true) T) (inK : K.In s.heap) (glb : s.heap.Ns mainGlobals mg) (blt : s.heap.Ns builtinsNs mb)
    (bb : ∀ x : Str, x ≠ "__name__" → mb x = bootBuiltins x) (unl : s.heap.NoLimit) (gn : s.gens = #[]) (scr : s.heap.get? a = some { cls := .type "list", data := .seq vs.toArray }) (hi : IntsAre vs ns) (few : ns.length ≤ sizeLine) (room : Room k callerA) :
    codeAny (model P w) callerA (.call (.ref fa) ⟨[.ref a], []⟩) (fun r t => r = .ok (.ret (.bool true)) ∧ OldK s.heap t.heap ∧ t.os = s.os ∧ AllBare t.gens) s := by
  have rv := vals_ints hi
  have lv := hi.length
  by_cases hk : K.lookup a = none
  · refine law_over G den_ok inK glb blt bb unl gn scr few room (fun b => if b = a then some (.frz { cls := .type "list", data := .seq vs.toArray } (.lst (ns.map V.int))) else none) (fun b => ?_)
      (.inl (.inr ⟨{ cls := .type "list", data := .seq vs.toArray }, if_pos rfl⟩)) (fun b u z => ?_) (fun b u z => ?_) fun _ _ => hk
    · by_cases hb : b = a
      · exact .inr ⟨_, _, if_pos hb⟩
      · exact .inl (if_neg hb)
    · by_cases hb : b = a
      · have y := (if_pos hb).symm.trans z
        cases y
        subst hb
        exact ⟨scr, by rw [List.length_map]; exact few, vs, _, rv, scr⟩
      · have y := (if_neg hb).symm.trans z
        cases y
    · by_cases hb : b = a
      · exact hb
      · have y := (if_neg hb).symm.trans z
        cases y
  · obtain ⟨o, hk⟩ := Option.ne_none_iff_exists'.mp hk
    have e := inK a o hk
    rw [scr] at e
    cases e
    exact law_over G den_ok inK glb blt bb unl gn scr few room (fun _ => none) (fun _ => .inl rfl) (.inr ⟨_, vs.toArray, _, hk, rfl, rfl, rfl, by rw [List.size_toArray, lv]; exact few, by simpa using rv⟩) (fun b u z => by cases z) (fun b u z => by cases z) fun u z => by cases z
end
/-- what k_head leaves, from the law's def and its denotation -/
theorem law_end {l : PySem.W.OpenLaw} {k : Nat} {q : Program} {loose : List Str} {XP : (Str → Option Value) → Heap → Prop} {YP : World → Heap → Prop} {d : DefRec} {K : Params → PySem.W.Frag} {den : World → (Str → Option Value) → List D → Sto → Res D}
    (hn : l.most = some 63) (hdf : d.params.defaults = []) (room : Room k callerA) (hY : ∀ (w : World) (h : Heap), YP w h → (K w.params).In h)
    (G : ∀ (w : World) (mg : Str → Option Value) (fa : Addr) (h : Heap), (K w.params).In h → h.Ns mainGlobals mg → mg d.name = some (.ref fa) →
      (∀ base : Heap, (K w.params).In base → base.Ns mainGlobals mg → FnG l.prog w (K w.params) mg base k fa 1 (den w mg)) ∧ ∀ ns : List Int, ns.length ≤ 63 → ∃ T, den w mg [.scr (ns.map .int)] [] = .ok (.bl true) T) :
    PySem.W.WalkO q loose XP YP l.row.toRowW d [] (fun f vs => PySem.call f vs) := by
  refine Att.attach_call hn hdf fun w s₀ s₁ mg mb fa o pm cd doc a vs ns Gr Y ho hd hcd hmg hobj hints hlen hg => ?_
  have KX := hY w _ Y
  obtain ⟨h1, h2⟩ := G w mg fa _ KX Gr.T.g hmg
  exact law_go (fun base a b _ => h1 base a b) (h2 ns hlen) KX Gr.T.g Gr.T.b Gr.T.builtins Gr.T.nolimit hg hobj hints (Nat.le_trans hlen (by decide)) room
/-- the same, where the module table is asked for -/
theorem law_endS {l : PySem.W.OpenLaw} {k : Nat} {q : Program} {loose : List Str} {XP : (Str → Option Value) → Heap → Prop} {YP : World → Heap → Prop} {d : DefRec} {K : Params → PySem.W.Frag} {den : World → (Str → Option Value) → List D → Sto → Res D}
    (himp : importsNone q = true) (hn : l.most = some 63) (hdf : d.params.defaults = []) (room : Room k callerA) (hY : ∀ (w : World) (h : Heap), YP w h → (K w.params).In h)
    (G : ∀ (w : World) (mg : Str → Option Value) (fa : Addr) (h : Heap), (K w.params).In h → h.Ns mainGlobals mg → mg d.name = some (.ref fa) →
      (∀ base : Heap, (K w.params).In base → base.Ns mainGlobals mg → (∃ o, base.get? sysModules = some o) → FnG l.prog w (K w.params) mg base k fa 1 (den w mg)) ∧ ∀ ns : List Int, ns.length ≤ 63 → ∃ T, den w mg [.scr (ns.map .int)] [] = .ok (.bl true) T) :
    PySem.W.WalkO q loose XP YP l.row.toRowW d [] (fun f vs => PySem.call f vs) := by
  refine Att.attach_call hn hdf fun w s₀ s₁ mg mb fa o pm cd doc a vs ns Gr Y ho hd hcd hmg hobj hints hlen hg => ?_
  have KX := hY w _ Y
  obtain ⟨h1, h2⟩ := G w mg fa _ KX Gr.T.g hmg
  obtain ⟨mm, hmm, _⟩ := (Gr.T.seer himp).mods
  exact law_go (fun base a b c => h1 base a b (by obtain ⟨o, _, _, e, _⟩ := c _ _ hmm; exact ⟨o, e⟩)) (h2 ns hlen) KX Gr.T.g Gr.T.b Gr.T.builtins Gr.T.nolimit hg hobj hints (Nat.le_trans hlen (by decide)) room
end DL

/-! DL: a tuple times one or none. -/
namespace DL
open PySem PySem.Spec PyProof.Rows L2
theorem tup_mulSame (l : Addr) (items : Array Value) (n : Nat) (dd : Option Addr) (sl : Array (Option Value)) (x : Int) (u : Tok) (c0 : (decide (x < -(2 ^ 63)) || decide (x ≥ 2 ^ 63)) = false) (c1 : (items.isEmpty || x == 1) = true) :
    Meets (Builtin.«tuple.__mul__» ⟨[.ref l, .int x u], []⟩) (fun _ R s => s.heap.get? l = some { cls := .type "tuple", dict := dd, data := .seq items n, slots := sl } ∧ R (.ok (.ret (Value.ref l))) s) :=
  .of_wp fun prog w A R s h => by
    obtain ⟨hp, g, d, tk, os⟩ := s
    obtain ⟨hl, h⟩ := h
    have f1 := AutoSeq1.idx_int
    wp_walk using wpAny_loadPart' hl
    repeat (first
      | (refine wpAny_ite_false (decide_eq_false (by rw [c0]; exact Bool.false_ne_true)) ?_; wp_walk using wpAny_loadPart' hl)
      | (refine wpAny_ite_true (decide_eq_true c1) ?_; wp_walk using wpAny_loadPart' hl))
    exact ⟨_, rfl, h⟩
theorem tup_mulNone (l : Addr) (items : Array Value) (n : Nat) (dd : Option Addr) (sl : Array (Option Value)) (x : Int) (u : Tok) (c0 : (decide (x < -(2 ^ 63)) || decide (x ≥ 2 ^ 63)) = false) (c1 : (items.isEmpty || x == 1) = false) (c2 : (decide (x ≤ 0) || items.isEmpty) = true) :
    Meets (Builtin.«tuple.__mul__» ⟨[.ref l, .int x u], []⟩) (fun _ R s => s.heap.get? l = some { cls := .type "tuple", dict := dd, data := .seq items n, slots := sl } ∧
      R (.ok (.ret (Value.ref s.heap.objs.size))) { s with heap := s.heap.push { cls := Value.type "tuple", data := Data.seq #[] }, toks := s.toks }) :=
  .of_wp fun prog w A R s h => by
    obtain ⟨hp, g, d, tk, os⟩ := s
    obtain ⟨hl, h⟩ := h
    have f1 := AutoSeq1.idx_int
    wp_walk using wpAny_loadPart' hl
    repeat (first
      | (refine wpAny_ite_false (decide_eq_false (by rw [c0]; exact Bool.false_ne_true)) ?_; wp_walk using wpAny_loadPart' hl)
      | (refine wpAny_ite_false (decide_eq_false (by rw [c1]; exact Bool.false_ne_true)) ?_; wp_walk using wpAny_loadPart' hl)
      | (refine wpAny_ite_true (decide_eq_true c2) ?_; wp_walk using wpAny_loadPart' hl))
    exact ⟨_, rfl, h⟩
def rRepS (K : PySem.W.Frag) : R2 := fun x y H Q => ∃ l k xs, x = V.ref l ∧ y = V.int k ∧ SqT K H l xs ∧ -(2 ^ 63) ≤ k ∧ k < 2 ^ 63 ∧ (xs = [] ∨ k = 1) ∧ Q (.ref l) H
def rRepN (K : PySem.W.Frag) : R2 := fun x y H Q => ∃ l k xs, x = V.ref l ∧ y = V.int k ∧ SqT K H l xs ∧ xs ≠ [] ∧ -(2 ^ 63) ≤ k ∧ k ≤ 0 ∧ ∀ p, H p = none → Q (.ref p) (upd H p (.tup []))
section
variable {X : Cx}
theorem op_repS : OpR X (binaryOp .Mult) (rRepS X.K) := by
  intro pins s σ H x y v u Q I rx ry h
  obtain ⟨l, k, xs, rfl, rfl, hT, h1, h2, hc1, q⟩ := h
  cases rx
  obtain ⟨t, rfl⟩ := ry
  obtain ⟨its, r, ⟨⟨cls, dd, data, sl⟩, ho, hc, n, hd⟩, hs⟩ := I.tuple hT
  simp only at hc hd
  subst hc hd
  have c0 : (decide (k < -(2 ^ 63)) || decide (k ≥ 2 ^ 63)) = false := by
    rw [decide_eq_false (by omega), decide_eq_false (by omega)] <;> rfl
  have c1 : (its.toArray.isEmpty || k == 1) = true := by
    rcases hc1 with rfl | rfl
    · cases r; rfl
    · simp
  refine wpAny_binaryOp_repeat_ref (T := "tuple") (U := "int") (by decide) ⟨_, ho, rfl⟩ (fun s' => typeIs_int s' k t) noFill_tuple_mul F.fills_int_mul F.slot_int_rmul repeat_tuple F.slot_int_index.lookup
    (call_meets F.slot_int_rmul (typeIs_int s k t) F.entry_int_rmul (F.args_int_rmul_2 _ _) (int_rmul_tuple k t l its.toArray n dd sl)
      ⟨ho, rfl, ⟨_, ho, rfl⟩, call_meets F.slot_tuple_mul ⟨_, ho, rfl⟩ F.entry_tuple_mul (F.args_tuple_mul_2 _ _) (tup_mulSame l its.toArray n dd sl k t c0 c1) ⟨ho, ?_⟩⟩)
  exact ⟨.ref l, H, I, rfl, q⟩
theorem op_repN : OpR X (binaryOp .Mult) (rRepN X.K) := by
  intro pins s σ H x y v u Q I rx ry h
  obtain ⟨l, k, xs, rfl, rfl, hT, hne, h1, h2, q⟩ := h
  cases rx
  obtain ⟨t, rfl⟩ := ry
  obtain ⟨its, r, ⟨⟨cls, dd, data, sl⟩, ho, hc, n, hd⟩, hs⟩ := I.tuple hT
  simp only at hc hd
  subst hc hd
  have hi : its.toArray.isEmpty = false := by
    cases its with
    | nil => cases r; exact absurd rfl hne
    | cons a b => rfl
  have c0 : (decide (k < -(2 ^ 63)) || decide (k ≥ 2 ^ 63)) = false := by
    rw [decide_eq_false (by omega), decide_eq_false (by omega)] <;> rfl
  have c1 : (its.toArray.isEmpty || k == 1) = false := by
    rw [hi, Bool.false_or]
    exact beq_eq_false_iff_ne.mpr (by omega)
  have c2 : (decide (k ≤ 0) || its.toArray.isEmpty) = true := by
    rw [decide_eq_true h2]; rfl
  refine wpAny_binaryOp_repeat_ref (T := "tuple") (U := "int") (by decide) ⟨_, ho, rfl⟩ (fun s' => typeIs_int s' k t) noFill_tuple_mul F.fills_int_mul F.slot_int_rmul repeat_tuple F.slot_int_index.lookup
    (call_meets F.slot_int_rmul (typeIs_int s k t) F.entry_int_rmul (F.args_int_rmul_2 _ _) (int_rmul_tuple k t l its.toArray n dd sl)
      ⟨ho, rfl, ⟨_, ho, rfl⟩, call_meets F.slot_tuple_mul ⟨_, ho, rfl⟩ F.entry_tuple_mul (F.args_tuple_mul_2 _ _) (tup_mulNone l its.toArray n dd sl k t c0 c1 c2) ⟨ho, ?_⟩⟩)
  refine ⟨.ref s.heap.objs.size, _, I.laid (t' := s.toks) (o := .tup []) (fun b ob q => Heap.get?_push_of_some _ q) (Nat.le_refl _) ?_, rfl, q _ (I.hok.fresh (Nat.le_refl _))⟩
  exact ⟨by rw [sizeLine_eq]; exact Nat.zero_le _, _, .nil, IsTup.new _ _⟩
end
end DL

/-! DL: what the operators and built-ins do on data. -/
namespace DL
open PySem PySem.Spec PyProof.Rows L2
/-! ### sequences -/
inductive Kd where
  | lst | tup | scr
def seqD (S : Sto) : D → Option (Kd × List D)
  | .lst xs => some (.lst, xs)
  | .tup xs => some (.tup, xs)
  | .tupZ xs => some (.tup, xs)
  | .scr xs => some (.scr, xs)
  | .loc n => match S[n]? with
    | some (.lst xs) => some (.lst, xs)
    | _ => none
  | _ => none
theorem seqD_loc {S : Sto} {n : Nat} : seqD S (.loc n) = match S[n]? with
    | some (.lst xs) => some (.lst, xs)
    | _ => none := rfl
section
variable {K : PySem.W.Frag} {H F : Hp} {S : Sto} {m : List Addr} {d : D} {v : V} {xs : List D}
theorem seq_lst (h : HSt K H S F m) (r : Rep K F m d v) (e : seqD S d = some (.lst, xs)) : ∃ a vs, v = .ref a ∧ H a = some (.lst vs) ∧ RepL K F m xs vs ∧ xs.length ≤ sizeLine := by
  cases r with
  | lst z f q => cases e; exact ⟨_, _, rfl, h.fz _ _ f, q, z⟩
  | @loc n a l =>
    rw [seqD_loc] at e
    cases es : S[n]? with
    | none => rw [es] at e; cases e
    | some o =>
      rw [es] at e
      cases o with
      | lst ys =>
        cases e
        obtain ⟨_, ho, h1, vs, rfl, h2, h3⟩ := h.sto _ _ _ l es (by intro z; cases z)
        exact ⟨_, _, rfl, h1, h3, h2⟩
      | _ => cases e
  | _ => cases e
theorem seq_tup (h : HSt K H S F m) (r : Rep K F m d v) (e : seqD S d = some (.tup, xs)) : ∃ a vs, v = .ref a ∧ Rd H a (.tup vs) ∧ RepL K F m xs vs ∧ xs.length ≤ sizeLine := by
  cases r with
  | tup z f q => cases e; exact ⟨_, _, rfl, .inl (h.fz _ _ f), q, z⟩
  | tupZ z f q => cases e; obtain ⟨o, f, _⟩ := f; exact ⟨_, _, rfl, .inr ⟨o, h.fz _ _ f⟩, q, z⟩
  | @loc n a l =>
    rw [seqD_loc] at e
    cases es : S[n]? with
    | none => rw [es] at e; cases e
    | some o => rw [es] at e; cases o <;> cases e
  | _ => cases e
theorem seq_scr (h : HSt K H S F m) (r : Rep K F m d v) (e : seqD S d = some (.scr, xs)) : ∃ a vs, v = .ref a ∧ SqL K H a vs ∧ RepL K F m xs vs ∧ xs.length ≤ sizeLine := by
  cases r with
  | scr z f q => cases e; exact ⟨_, _, rfl, sqL_le h.fz f, q, z⟩
  | @loc n a l =>
    rw [seqD_loc] at e
    cases es : S[n]? with
    | none => rw [es] at e; cases e
    | some o => rw [es] at e; cases o <;> cases e
  | _ => cases e
theorem seqD_tup {S : Sto} {d : D} {xs : List D} (e : seqD S d = some (.tup, xs)) : d = .tup xs ∨ d = .tupZ xs := by
  cases d with
  | tup ys => cases e; exact .inl rfl
  | tupZ ys => cases e; exact .inr rfl
  | loc n =>
    rw [seqD_loc] at e
    cases es : S[n]? with
    | none => rw [es] at e; cases e
    | some o => rw [es] at e; cases o <;> cases e
  | _ => cases e
/-- a list of any kind or a tuple -/
theorem seq_any (h : HSt K H S F m) (r : Rep K F m d v) {k : Kd} (e : seqD S d = some (k, xs)) : ∃ a vs, v = .ref a ∧ (SqL K H a vs ∨ SqT K H a vs) ∧ RepL K F m xs vs ∧ xs.length ≤ sizeLine := by
  cases k with
  | lst => obtain ⟨a, vs, h1, h2, h3⟩ := seq_lst h r e; exact ⟨a, vs, h1, .inl (.inl (.inl h2)), h3⟩
  | tup => obtain ⟨a, vs, h1, h2, h3⟩ := seq_tup h r e; exact ⟨a, vs, h1, .inr (.inl h2), h3⟩
  | scr => obtain ⟨a, vs, h1, h2, h3⟩ := seq_scr h r e; exact ⟨a, vs, h1, .inl h2, h3⟩
end
/-! ### ints -/
/-- x + y of tuples: where one is empty the other itself -/
def joinT (x y : D) (xs ys : List D) : D := match xs, ys with
  | [], _ => y
  | _, [] => x
  | _, _ => .tup (xs ++ ys)
def fAdd : D → D → Sto → Res D
  | .int i, .int j, S => .ok (.int (i + j)) S
  | .str a, .str b, S => if a.length + b.length ≤ sizeLine then .ok (.str (a ++ b)) S else .bad
  | x, y, S => match seqD S x, seqD S y with
    | some (.lst, xs), some (.lst, ys) => if xs.length + ys.length ≤ sizeLine then .ok (.lst (xs ++ ys)) S else .bad
    | some (.tup, xs), some (.tup, ys) => if xs.length + ys.length ≤ sizeLine then .ok (joinT x y xs ys) S else .bad
    | _, _ => .bad
def fSub : D → D → Sto → Res D
  | .int i, .int j, S => .ok (.int (i - j)) S
  | _, _, _ => .bad
def fMul : D → D → Sto → Res D
  | .int i, .int j, S => if (-(2 ^ 64) < i ∧ i < 2 ^ 64) ∨ (-(2 ^ 64) < j ∧ j < 2 ^ 64) then .ok (.int (i * j)) S else .bad
  | x, .int k, S => match seqD S x with
    | some (.lst, xs) => if -(2 ^ 63) ≤ k ∧ k < 2 ^ 63 ∧ xs.length * k.toNat ≤ sizeLine then .ok (.lst (List.replicate k.toNat xs).flatten) S else .bad
    | some (.tup, xs) => if xs ≠ [] ∧ 2 ≤ k ∧ k ≤ 1000 ∧ xs.length ≤ 1000 then .ok (.tup (List.replicate k.toNat xs).flatten) S
      else if -(2 ^ 63) ≤ k ∧ k < 2 ^ 63 ∧ (xs = [] ∨ k = 1) then .ok x S
      else if xs ≠ [] ∧ -(2 ^ 63) ≤ k ∧ k ≤ 0 then .ok (.tup []) S else .bad
    | _ => .bad
  | _, _, _ => .bad
def fMod : D → D → Sto → Res D
  | .int i, .int j, S => if 0 < j then .ok (.int (i % j)) S else .bad
  | _, _, _ => .bad
def fDiv : D → D → Sto → Res D
  | .int i, .int j, S => if 0 < j ∧ j < 1073741824 then .ok (.int (i / j)) S else .bad
  | _, _, _ => .bad
def fPow : D → D → Sto → Res D
  | .int i, .int j, S => if 0 ≤ j ∧ j ≤ 1000000 ∧ i.natAbs < 2 ^ 64 then .ok (.int (i ^ j.toNat)) S else .bad
  | _, _, _ => .bad
def fNeg : D → Sto → Res D
  | .int i, S => .ok (.int (-i)) S
  | _, _ => .bad
def fLt : D → D → Sto → Res Bool
  | .int i, .int j, S => .ok (decide (i < j)) S
  | _, _, _ => .bad
def fLe : D → D → Sto → Res Bool
  | .int i, .int j, S => .ok (decide (i ≤ j)) S
  | _, _, _ => .bad
def fGt : D → D → Sto → Res Bool
  | .int i, .int j, S => .ok (decide (j < i)) S
  | _, _, _ => .bad
def fGe : D → D → Sto → Res Bool
  | .int i, .int j, S => .ok (decide (j ≤ i)) S
  | _, _, _ => .bad
def fIx : D → D → Sto → Res D
  | .str z, .int i, S => match atI z.cps.toList i with
    | some c => .ok (.str ⟨#[c]⟩) S
    | none => .bad
  | x, .int i, S => match seqD S x with
    | some (_, xs) => match atI xs i with
      | some d => .ok d S
      | none => .bad
    | none => .bad
  | _, _, _ => .bad
section
variable {X : Cx}
theorem r2_int {g : Int → Int → Int} {f : D → D → Sto → Res D} (hf : ∀ x y S d S', f x y S = .ok d S' → ∃ i j, x = .int i ∧ y = .int j ∧ d = .int (g i j) ∧ S' = S) (hx : ∀ x y S z S', f x y S ≠ .exc z S') : R2K X (rI0 fun i j => .int (g i j)) f := by
  intro H S F m x y dx dy Q E h rx ry p
  cases e : f dx dy S with
  | bad => rw [e] at p; exact p.elim
  | exc z S' => exact absurd e (hx _ _ _ _ _)
  | ok d S' =>
    rw [e] at p
    obtain ⟨i, j, rfl, rfl, rfl, rfl⟩ := hf _ _ _ _ _ e
    cases rx; cases ry
    exact ⟨i, j, rfl, rfl, p _ H F m h (Ext.refl _ _ _) (.int _)⟩
theorem r2_intC {C : Int → Int → Prop} {g : Int → Int → Int} {f : D → D → Sto → Res D} (hf : ∀ x y S d S', f x y S = .ok d S' → ∃ i j, x = .int i ∧ y = .int j ∧ C i j ∧ d = .int (g i j) ∧ S' = S) (hx : ∀ x y S z S', f x y S ≠ .exc z S') : R2K X (rI C fun i j => .int (g i j)) f := by
  intro H S F m x y dx dy Q E h rx ry p
  cases e : f dx dy S with
  | bad => rw [e] at p; exact p.elim
  | exc z S' => exact absurd e (hx _ _ _ _ _)
  | ok d S' =>
    rw [e] at p
    obtain ⟨i, j, rfl, rfl, hc, rfl, rfl⟩ := hf _ _ _ _ _ e
    cases rx; cases ry
    exact ⟨i, j, rfl, rfl, hc, p _ H F m h (Ext.refl _ _ _) (.int _)⟩
theorem rc_int {g : Int → Int → Bool} {f : D → D → Sto → Res Bool} (hf : ∀ x y S d S', f x y S = .ok d S' → ∃ i j, x = .int i ∧ y = .int j ∧ d = g i j ∧ S' = S) (hx : ∀ x y S z S', f x y S ≠ .exc z S') : RCK X (rI0 fun i j => .bl (g i j)) f := by
  intro H S F m x y dx dy Q E h rx ry p
  cases e : f dx dy S with
  | bad => rw [e] at p; exact p.elim
  | exc z S' => exact absurd e (hx _ _ _ _ _)
  | ok d S' =>
    rw [e] at p
    obtain ⟨i, j, rfl, rfl, rfl, rfl⟩ := hf _ _ _ _ _ e
    cases rx; cases ry
    exact ⟨i, j, rfl, rfl, _, rfl, p _ H F m h (Ext.refl _ _ _) rfl⟩
theorem mono_I0 {g : Int → Int → V} : ∀ x y H (Q Q' : VK), (∀ v H', Q v H' → Q' v H') → rI0 g x y H Q → rI0 g x y H Q' := fun _ _ _ _ _ k ⟨i, j, h1, h2, q⟩ => ⟨i, j, h1, h2, k _ _ q⟩
theorem k_sub : R2K X (rI0 fun i j => .int (i - j)) fSub := r2_int (g := fun i j => i - j) (fun x y S d S' e => by unfold fSub at e; split at e <;> cases e; exact ⟨_, _, rfl, rfl, rfl, rfl⟩) (fun x y S z S' e => by unfold fSub at e; split at e <;> cases e)
theorem k_mod : R2K X (rI (fun _ j => 0 < j) fun i j => .int (i % j)) fMod := r2_intC (g := fun i j => i % j) (fun x y S d S' e => by
  unfold fMod at e; split at e
  · split at e <;> cases e; exact ⟨_, _, rfl, rfl, by assumption, rfl, rfl⟩
  · cases e) (fun x y S z S' e => by unfold fMod at e; split at e; (split at e <;> cases e); cases e)
theorem k_div : R2K X (rI CDiv fun i j => .int (i / j)) fDiv := r2_intC (g := fun i j => i / j) (fun x y S d S' e => by
  unfold fDiv at e; split at e
  · split at e <;> cases e; exact ⟨_, _, rfl, rfl, by assumption, rfl, rfl⟩
  · cases e) (fun x y S z S' e => by unfold fDiv at e; split at e; (split at e <;> cases e); cases e)
theorem k_pow : R2K X (rI CPow fun i j => .int (i ^ j.toNat)) fPow := r2_intC (g := fun i j => i ^ j.toNat) (fun x y S d S' e => by
  unfold fPow at e; split at e
  · split at e <;> cases e; exact ⟨_, _, rfl, rfl, by assumption, rfl, rfl⟩
  · cases e) (fun x y S z S' e => by unfold fPow at e; split at e; (split at e <;> cases e); cases e)
theorem k_neg : R1K X (rU fun i => .int (-i)) fNeg := by
  intro H S F m x dx Q E h rx p
  cases rx with
  | int i => exact ⟨i, rfl, p _ H F m h (Ext.refl _ _ _) (.int _)⟩
  | _ => exact p.elim
theorem k_lt : RCK X (rI0 fun i j => .bl (decide (i < j))) fLt := rc_int (fun x y S d S' e => by unfold fLt at e; split at e <;> cases e; exact ⟨_, _, rfl, rfl, rfl, rfl⟩) (fun x y S z S' e => by unfold fLt at e; split at e <;> cases e)
theorem k_le : RCK X (rI0 fun i j => .bl (decide (i ≤ j))) fLe := rc_int (fun x y S d S' e => by unfold fLe at e; split at e <;> cases e; exact ⟨_, _, rfl, rfl, rfl, rfl⟩) (fun x y S z S' e => by unfold fLe at e; split at e <;> cases e)
theorem k_gt : RCK X (rI0 fun i j => .bl (decide (j < i))) fGt := rc_int (g := fun i j => decide (j < i)) (fun x y S d S' e => by unfold fGt at e; split at e <;> cases e; exact ⟨_, _, rfl, rfl, rfl, rfl⟩) (fun x y S z S' e => by unfold fGt at e; split at e <;> cases e)
theorem k_ge : RCK X (rI0 fun i j => .bl (decide (j ≤ i))) fGe := rc_int (g := fun i j => decide (j ≤ i)) (fun x y S d S' e => by unfold fGe at e; split at e <;> cases e; exact ⟨_, _, rfl, rfl, rfl, rfl⟩) (fun x y S z S' e => by unfold fGe at e; split at e <;> cases e)
/-! ### + and * -/
theorem r2_or {r r' : R2} {f g : D → D → Sto → Res D} (h : R2K X r f) (h' : R2K X r' g) (sel : ∀ x y S, (∀ (Q : Res D → Prop), Q (g x y S) → Q (f x y S)) ∨ True) : True := trivial
abbrev rAdd4 (K : PySem.W.Frag) : R2 := fun x y H Q => rI0 (fun i j => .int (i + j)) x y H Q ∨ (∃ i j, x = .str i ∧ y = .str j ∧ i.length + j.length ≤ sizeLine ∧ Q (.str (i ++ j)) H) ∨ rCat x y H Q ∨ rCatA K x y H Q
theorem op_add4 : OpR X (binaryOp .Add) (rAdd4 X.K) := op_add.or (op_add_str.or (op_cat.or op_catA))
theorem strlen_app (a b : Str) : (a ++ b).length = a.length + b.length := strLen_append a b
theorem seqD_int {S : Sto} {i : Int} : seqD S (.int i) = none := rfl
theorem post_frozen {mg : Str → Option Value} {K : PySem.W.Frag} {H F : Hp} {m : List Addr} {S : Sto} {Q : VK} {E : XW} {xs : List D} {vs : List V} (h : HSt K H S F m) (r : RepL K F m xs vs) (z : xs.length ≤ sizeLine) (p : Post (Rep K) mg K H F m (.ok (.lst xs) S) Q E) :
    ∀ a, H a = none → Q (.ref a) (upd H a (.lst vs)) := fun a n => p _ _ _ m (h.froz n _) (h.frozE n _) (.lst z upd_same (r.le (h.frozE n _).le))
theorem post_tup {mg : Str → Option Value} {K : PySem.W.Frag} {H F : Hp} {m : List Addr} {S : Sto} {Q : VK} {E : XW} {xs : List D} {vs : List V} (h : HSt K H S F m) (r : RepL K F m xs vs) (z : xs.length ≤ sizeLine) (p : Post (Rep K) mg K H F m (.ok (.tup xs) S) Q E) :
    ∀ a, H a = none → Q (.ref a) (upd H a (.tup vs)) := fun a n => p _ _ _ m (h.froz n _) (h.frozE n _) (.tup z upd_same (r.le (h.frozE n _).le))
/-- t as it is, the same object -/
theorem k_add : R2K X (rAdd4 X.K) fAdd := by
  intro H S F m x y dx dy Q E h rx ry p
  unfold fAdd at p
  split at p
  · cases rx; cases ry
    exact .inl ⟨_, _, rfl, rfl, p _ H F m h (Ext.refl _ _ _) (.int _)⟩
  · cases rx; cases ry
    split at p
    · rename_i hz
      exact .inr (.inl ⟨_, _, rfl, rfl, hz, p _ H F m h (Ext.refl _ _ _) (.str _ (by rw [strlen_app]; exact hz))⟩)
    · exact p.elim
  · split at p
    · rename_i xs ys e1 e2
      split at p
      · rename_i hz
        obtain ⟨a, vs, rfl, h1, r1, z1⟩ := seq_lst h rx e1
        obtain ⟨b, ws, rfl, h2, r2, z2⟩ := seq_lst h ry e2
        refine .inr (.inr (.inl ⟨a, b, vs, ws, rfl, rfl, h1, h2, by rw [← r1.length, ← r2.length]; exact hz, post_frozen h (r1.append r2) (by rw [List.length_append]; exact hz) p⟩))
      · exact p.elim
    · rename_i xs ys e1 e2
      split at p
      · rename_i hz
        obtain ⟨a, vs, rfl, h1, r1, z1⟩ := seq_tup h rx e1
        obtain ⟨b, ws, rfl, h2, r2, z2⟩ := seq_tup h ry e2
        have q1 := p
        refine .inr (.inr (.inr ⟨a, b, vs, ws, rfl, rfl, .inl h1, .inl h2, by rw [← r1.length, ← r2.length]; exact hz, fun hv => ?_, fun hv hw => ?_, fun hv hw => ?_⟩))
        · subst hv
          cases r1
          exact p _ H F m h (Ext.refl _ _ _) ry
        · subst hw
          cases r2
          cases r1 with
          | nil => exact absurd rfl hv
          | cons a b => exact p _ H F m h (Ext.refl _ _ _) rx
        · cases r1 with
          | nil => exact absurd rfl hv
          | cons a1 b1 =>
            cases r2 with
            | nil => exact absurd rfl hw
            | cons a2 b2 => exact post_tup h (RepL.append (.cons a1 b1) (.cons a2 b2)) (by rw [List.length_append]; exact hz) p
      · exact p.elim
    · exact p.elim
abbrev rMul3 (K : PySem.W.Frag) : R2 := fun x y H Q => rI CMul (fun i j => .int (i * j)) x y H Q ∨ rRep x y H Q ∨ rRepT K x y H Q ∨ rRepS K x y H Q ∨ rRepN K x y H Q
theorem op_mul3 : OpR X (binaryOp .Mult) (rMul3 X.K) := op_mul.or (op_rep.or (op_repT.or (op_repS.or op_repN)))
theorem repL_rep {K : PySem.W.Frag} {F : Hp} {m : List Addr} {xs : List D} {vs : List V} (r : RepL K F m xs vs) : ∀ n : Nat, RepL K F m (List.replicate n xs).flatten (List.replicate n vs).flatten
  | 0 => .nil
  | n + 1 => by
    rw [List.replicate_succ, List.replicate_succ, List.flatten_cons, List.flatten_cons]
    exact r.append (repL_rep r n)
theorem len_rep {α : Type} (xs : List α) (n : Nat) : (List.replicate n xs).flatten.length = n * xs.length := by
  induction n with
  | zero => simp
  | succ n ih => rw [List.replicate_succ, List.flatten_cons, List.length_append, ih, Nat.succ_mul]; omega
theorem k_mul : R2K X (rMul3 X.K) fMul := by
  intro H S F m x y dx dy Q E h rx ry p
  unfold fMul at p
  split at p
  · split at p
    · rename_i hc
      cases rx; cases ry
      exact .inl ⟨_, _, rfl, rfl, hc, p _ H F m h (Ext.refl _ _ _) (.int _)⟩
    · exact p.elim
  · split at p
    · rename_i xs e1
      split at p
      · rename_i hc
        obtain ⟨a, vs, rfl, h1, r1, z1⟩ := seq_lst h rx e1
        cases ry
        exact .inr (.inl ⟨a, _, vs, rfl, rfl, h1, hc.1, hc.2.1, by rw [← r1.length]; exact hc.2.2, post_frozen h (repL_rep r1 _) (by rw [len_rep, Nat.mul_comm]; exact hc.2.2) p⟩)
      · exact p.elim
    · rename_i xs e1
      split at p
      · rename_i hc
        obtain ⟨a, vs, rfl, h1, r1, z1⟩ := seq_tup h rx e1
        cases ry
        have hz : ∀ k : Int, 2 ≤ k → k ≤ 1000 → (List.replicate k.toNat xs).flatten.length ≤ sizeLine := fun k _ h3 => by
          rw [len_rep]
          have h2 : k.toNat ≤ 1000 := by omega
          exact Nat.le_trans (Nat.mul_le_mul h2 hc.2.2.2) (by decide)
        exact .inr (.inr (.inl ⟨a, _, vs, rfl, rfl, .inl h1, (fun z => by subst z; cases r1; exact hc.1 rfl), hc.2.1, hc.2.2.1, by rw [← r1.length]; exact hc.2.2.2, post_tup h (repL_rep r1 _) (hz _ hc.2.1 hc.2.2.1) p⟩))
      · obtain ⟨a, vs, rfl, h1, r1, z1⟩ := seq_tup h rx e1
        cases ry
        split at p
        · rename_i hc
          exact .inr (.inr (.inr (.inl ⟨a, _, vs, rfl, rfl, .inl h1, hc.1, hc.2.1, hc.2.2.imp_left (fun z => by subst z; cases r1; rfl), p _ H F m h (Ext.refl _ _ _) rx⟩)))
        · split at p
          · rename_i hc
            exact .inr (.inr (.inr (.inr ⟨a, _, vs, rfl, rfl, .inl h1, (fun z => by subst z; cases r1; exact hc.1 rfl), hc.2.1, hc.2.2, post_tup h .nil (Nat.zero_le _) p⟩)))
          · exact p.elim
    · exact p.elim
  · exact p.elim
/-! ### places -/
theorem atI_rep {K : PySem.W.Frag} {F : Hp} {m : List Addr} {xs : List D} {vs : List V} {i : Int} {d : D} (r : RepL K F m xs vs) (e : atI xs i = some d) : ∃ v, atI vs i = some v ∧ Rep K F m d v := by
  unfold atI at e ⊢
  rw [← r.length]
  obtain ⟨j, e1, e2⟩ := Option.bind_eq_some_iff.mp e
  obtain ⟨v, h1, h2⟩ := r.get e2
  exact ⟨v, by rw [e1]; exact h1, h2⟩
theorem len1 (c : Nat) : (⟨#[c]⟩ : Str).length ≤ sizeLine := by show 1 ≤ sizeLine; decide
theorem k_ix : R2K X (rIx X.K) fIx := by
  intro H S F m x y dx dy Q E h rx ry p
  unfold fIx at p
  split at p
  · cases ry
    cases rx with
    | str _ hz =>
      split at p
      · rename_i c hc
        exact .inr (.inr ⟨_, _, c, rfl, rfl, hz, hc, p _ H F m h (Ext.refl _ _ _) (.str _ (len1 c))⟩)
      · exact p.elim
  · split at p
    · rename_i k xs e1
      split at p
      · rename_i d hd
        cases ry
        obtain ⟨a, vs, rfl, h1, r1, z1⟩ := seq_any h rx e1
        obtain ⟨v, hv, rv⟩ := atI_rep r1 hd
        have q := p v H F m h (Ext.refl _ _ _) rv
        rcases h1 with h1 | h1
        · exact .inl ⟨a, vs, _, v, rfl, rfl, h1, hv, q⟩
        · exact .inr (.inl ⟨a, vs, _, v, rfl, rfl, h1, hv, q⟩)
      · exact p.elim
    · exact p.elim
  · exact p.elim
end
/-! ### slices -/
def cutD (xs : List D) (lo hi : Option Int) : List D := (xs.drop (HT.sIx xs.length 0 lo)).take (HT.sIx xs.length xs.length hi - HT.sIx xs.length 0 lo)
abbrev EvO := Ev (Option Int)
def oNone : EvO := fun _ S => .ok none S
def oSome (e : Ev D) : EvO := fun ρ S => (e ρ S).bind fun d S1 => match d with
  | .int i => .ok (some i) S1
  | _ => .bad
def dSlL (e : Ev D) (lo hi : EvO) : Ev (List D) := fun ρ S => (e ρ S).bind fun d S1 => (lo ρ S1).bind fun l S2 => (hi ρ S2).bind fun u S3 => match d with
  | .lst xs => .ok (cutD xs l u) S3
  | .scr xs => .ok (cutD xs l u) S3
  | .loc n => match S3[n]? with
    | some (.lst xs) => .ok (cutD xs l u) S3
    | _ => .bad
  | _ => .bad
structure DO (X : Cx) (e : Option Expr) (g : EvO) : Prop where
  ex : ∀ W, Takes X W → ∃ t, PO X e t ∧ ∀ σ H ρ S F m Q, Slots X.K F m ρ σ → HSt X.K H S F m → Post (fun _ _ (a b : Option Int) => a = b) X.mg X.K H F m (g ρ S) Q (fun c d H' => W c d σ H') → t σ H Q
section
variable {X : Cx} {pos p2 : Pos} {e : Expr} {lo hi : Option Expr} {ge : Ev D} {gl gh : EvO}
theorem do_none : DO X none oNone := ⟨fun W _ => ⟨_, po_none, fun σ H ρ S F m Q sl h p => p none H F m h (Ext.refl _ _ _) rfl⟩⟩
theorem do_some (h : DE X e ge) : DO X (some e) (oSome ge) := by
  refine ⟨fun W tk => ?_⟩
  obtain ⟨t, pt, rt⟩ := h.ex W tk
  refine ⟨_, po_some pt, fun σ H ρ S F m Q sl h p => ?_⟩
  refine rt σ H ρ S F m _ sl h (Post.bind p fun d S1 v H1 F1 m1 h1 x1 r1 p1 => ?_)
  cases r1 with
  | int i => exact ⟨i, rfl, p1 _ H1 F1 m1 h1 (Ext.refl _ _ _) rfl⟩
  | _ => exact p1.elim
theorem cut_rep {K : PySem.W.Frag} {F : Hp} {m : List Addr} {xs : List D} {vs : List V} (r : RepL K F m xs vs) (l u : Option Int) : RepL K F m (cutD xs l u) (cutV vs l u) := by
  unfold cutD cutV
  rw [r.length]
  exact (r.drop _).take _
theorem cut_len (xs : List D) (l u : Option Int) : (cutD xs l u).length ≤ xs.length := by
  unfold cutD
  rw [List.length_take, List.length_drop]; omega
theorem sIx_whole {n : Nat} {lo hi : Option Int} {xs : List D} (hn : xs.length = n) (h : HT.sIx n 0 lo = 0 ∧ HT.sIx n n hi = n) : cutD xs lo hi = xs := by
  subst hn
  unfold cutD
  rw [h.1, h.2]; simp
/-- any slice, its result held still -/
def cutT (d : D) (xs : List D) (l u : Option Int) : D := if HT.sIx xs.length 0 l = 0 ∧ HT.sIx xs.length xs.length u = xs.length then d else .tup (cutD xs l u)
def fCut (d : D) (l u : Option Int) (S : Sto) : Res D := match seqD S d with
  | some (.tup, xs) => .ok (cutT d xs l u) S
  | some (_, xs) => .ok (.lst (cutD xs l u)) S
  | none => .bad
def dSl (e : Ev D) (lo hi : EvO) : Ev D := fun ρ S => (e ρ S).bind fun d S1 => (lo ρ S1).bind fun l S2 => (hi ρ S2).bind fun u S3 => fCut d l u S3
theorem de_sl (he : DE X e ge) (hl : DO X lo gl) (hh : DO X hi gh) : DE X (.Subscript e (.Slice lo hi none p2) pos) (dSl ge gl gh) := by
  refine ⟨fun W tk => ?_⟩
  obtain ⟨t, pt, rt⟩ := he.ex W tk
  obtain ⟨tl, pl, rl⟩ := hl.ex W tk
  obtain ⟨th, ph, rh⟩ := hh.ex W tk
  refine ⟨_, pe_slice (sl_tupA.or sl_list) pt pl ph, fun σ H ρ S F m Q sl h p => ?_⟩
  refine rt σ H ρ S F m _ sl h (Post.bind p fun d S1 v H1 F1 m1 h1 x1 r1 p1 => ?_)
  refine rl σ H1 ρ S1 F1 m1 _ (sl.le x1.le) h1 (Post.bind p1 fun l S2 l' H2 F2 m2 h2 x2 e2 p2 => ?_)
  subst e2
  refine rh σ H2 ρ S2 F2 m2 _ (sl.le (x1.trans x2).le) h2 (Post.bind p2 fun u S3 u' H3 F3 m3 h3 x3 e3 p3 => ?_)
  subst e3
  have r3 := r1.le (x2.trans x3).le
  unfold fCut at p3
  split at p3
  · rename_i xs e
    obtain ⟨a, vs, rfl, f, q, z⟩ := seq_tup h3 r3 e
    unfold cutT at p3
    rw [q.length] at p3
    refine .inl ⟨a, vs, rfl, .inl f, fun hw => ?_, fun hw => ?_⟩
    · rw [if_pos hw] at p3
      exact p3 _ H3 F3 m3 h3 (Ext.refl _ _ _) r3
    · rw [if_neg hw] at p3
      exact post_tup h3 (cut_rep q l u) (Nat.le_trans (cut_len _ _ _) z) p3
  · rename_i k xs hk e
    obtain ⟨a, vs, rfl, f, q, z⟩ : ∃ a vs, v = V.ref a ∧ SqL X.K H3 a vs ∧ RepL X.K F3 m3 xs vs ∧ xs.length ≤ sizeLine := by
      cases k with
      | tup => exact absurd rfl hk
      | lst => obtain ⟨a, vs, e1, e2, e3⟩ := seq_lst h3 r3 e; exact ⟨a, vs, e1, .inl (.inl e2), e3⟩
      | scr => exact seq_scr h3 r3 e
    exact .inr ⟨a, vs, rfl, f, post_frozen h3 (cut_rep q l u) (Nat.le_trans (cut_len _ _ _) z) p3⟩
  · exact p3.elim
theorem dn_slL (he : DE X e ge) (hl : DO X lo gl) (hh : DO X hi gh) : DN X (.Subscript e (.Slice lo hi none p2) pos) (dSlL ge gl gh) := by
  refine ⟨fun W tk => ?_⟩
  obtain ⟨t, pt, rt⟩ := he.ex W tk
  obtain ⟨tl, pl, rl⟩ := hl.ex W tk
  obtain ⟨th, ph, rh⟩ := hh.ex W tk
  refine ⟨_, pe_slice sl_list pt pl ph, fun σ H ρ S F m Q sl h p => ?_⟩
  refine rt σ H ρ S F m _ sl h (Post.bindN p fun d S1 v H1 F1 m1 h1 x1 r1 p1 => ?_)
  refine rl σ H1 ρ S1 F1 m1 _ (sl.le x1.le) h1 (Post.bindN p1 fun l S2 l' H2 F2 m2 h2 x2 e2 p2 => ?_)
  subst e2
  refine rh σ H2 ρ S2 F2 m2 _ (sl.le (x1.trans x2).le) h2 (Post.bindN p2 fun u S3 u' H3 F3 m3 h3 x3 e3 p3 => ?_)
  subst e3
  have r3 := r1.le (x2.trans x3).le
  have go : ∀ {xs : List D} {a : Addr} {vs : List V}, v = .ref a → SqL X.K H3 a vs → RepL X.K F3 m3 xs vs → xs.length ≤ sizeLine → PostN X.mg X.K H3 F3 m3 (.ok (cutD xs l u) S3) Q (fun c d H' => W c d σ H') → rSlL X.K v l u H3 Q := by
    intro xs a vs ev hq q z p4
    refine ⟨a, vs, ev, hq, fun b hb => ?_⟩
    obtain ⟨h4, x4⟩ := h3.lay hb (.lst (cutV vs l u))
    exact p4 b _ _ F3 m3 h4 x4 hb (by
      cases e : F3 b with
      | none => rfl
      | some o => rw [h3.fz b o e] at hb; cases hb) (fun y => h3.dom b y hb) upd_same (cut_rep q l u) (Nat.le_trans (cut_len _ _ _) z)
  split at p3
  · rename_i xs
    cases r3 with
    | lst z f q => exact go rfl (.inl (.inl (h3.fz _ _ f))) q z p3
  · rename_i xs
    cases r3 with
    | scr z f q => exact go rfl (sqL_le h3.fz f) q z p3
  · rename_i n
    split at p3
    · rename_i xs es
      obtain ⟨a, vs, e1, e2, e3, e4⟩ := seq_lst (xs := xs) h3 r3 (by rw [seqD_loc, es])
      exact go e1 (.inl (.inl e2)) e3 e4 p3
    · exact p3.elim
  · exact p3.elim
end
end DL

/-! DL: built-ins, == of data, what a for walks, stores. -/
namespace DL
open PySem PySem.Spec PyProof.Rows L2
/-! ### data without a store, as the library's data -/
mutual
def D.py : D → PyData
  | .non => .none
  | .bl b => .bool b
  | .int i => .int i
  | .str s => .str s
  | .tup xs => .tuple (D.pyL xs)
  | .lst xs => .list (D.pyL xs)
  | .scr xs => .list (D.pyL xs)
  | .dic0 => .dict []
  | .loc _ => .none
  | .adr _ => .none
  | .ty _ => .none
  | .tupZ xs => .tuple (D.pyL xs)
  | .dicS kvs => .dict (kvs.map fun p => (.str p.1, .int p.2))
  | .xc _ _ _ => .none
def D.pyL : List D → List PyData
  | [] => []
  | d :: ds => d.py :: D.pyL ds
end
mutual
/-- it is such data -/
def D.isD : D → Bool
  | .non => true
  | .bl _ => true
  | .int _ => true
  | .str _ => true
  | .tup xs => D.isL xs
  | .lst xs => D.isL xs
  | .scr _ => false
  | .dic0 => false
  | .loc _ => false
  | .adr _ => false
  | .ty _ => false
  | .tupZ xs => D.isL xs
  | .dicS _ => false
  | .xc _ _ _ => false
def D.isL : List D → Bool
  | [] => true
  | d :: ds => d.isD && D.isL ds
end
mutual
theorem dp_of {K : PySem.W.Frag} {H F : Hp} {m : List Addr} (le : ∀ a o, F a = some o → H a = some o) : ∀ {d : D} {v : V}, Rep K F m d v → d.isD = true → Dp K H v d.py
  | _, _, .non, _ => .non
  | _, _, .bl b, _ => .bl b
  | _, _, .int i, _ => .int i
  | _, _, .str s _, _ => .str s
  | _, _, .tup _ f r, h => .tup (.inl (.inl (le _ _ f))) (dpL_of le r h)
  | _, _, .tupZ _ f r, h => by
    obtain ⟨o, f, _⟩ := f
    exact .tup (.inl (.inr ⟨o, le _ _ f⟩)) (dpL_of le r h)
  | _, _, .dicS _ _, h => by cases h
  | _, _, .lst _ f r, h => .lst (.inl (.inl (le _ _ f))) (dpL_of le r h)
  | _, _, .scr _ _ _, h => by cases h
  | _, _, .dic0 _, h => by cases h
  | _, _, .loc _, h => by cases h
  | _, _, .adr _, h => by cases h
  | _, _, .ty _, h => by cases h
  | _, _, .xc0 _, h => by cases h
  | _, _, .xc1 _ _ _, h => by cases h
theorem dpL_of {K : PySem.W.Frag} {H F : Hp} {m : List Addr} (le : ∀ a o, F a = some o → H a = some o) : ∀ {ds : List D} {vs : List V}, RepL K F m ds vs → D.isL ds = true → DpAll K H vs (D.pyL ds)
  | _, _, .nil, _ => .nil
  | _, _, .cons a b, h => .cons (dp_of le a (by simp [D.isL] at h; exact h.1)) (dpL_of le b (by simp [D.isL] at h; exact h.2))
end
/-- the data of a value: a list of the store counts as a list -/
def dataOf (S : Sto) (d : D) : Option D := match d with
  | .loc n => match S[n]? with
    | some (.lst xs) => if D.isL xs = true then some (.lst xs) else none
    | _ => none
  | d => if d.isD = true then some d else none
theorem dataOf_loc {S : Sto} {n : Nat} : dataOf S (.loc n) = match S[n]? with
    | some (.lst xs) => if D.isL xs = true then some (.lst xs) else none
    | _ => none := rfl
theorem data_dp {K : PySem.W.Frag} {H F : Hp} {S : Sto} {m : List Addr} {d e : D} {v : V} (h : HSt K H S F m) (r : Rep K F m d v) (q : dataOf S d = some e) : Dp K H v e.py := by
  cases r with
  | @loc n a l =>
    rw [dataOf_loc] at q
    cases es : S[n]? with
    | none => rw [es] at q; cases q
    | some o =>
      rw [es] at q
      cases o with
      | lst xs =>
        dsimp only at q
        split at q
        · rename_i hx
          cases q
          obtain ⟨_, ho, h1, vs, rfl, h2, h3⟩ := h.sto _ _ _ l es (by intro z; cases z)
          exact .lst (.inl (.inl h1)) (dpL_of h.fz h3 hx)
        · cases q
      | _ => cases q
  | tup z f r => unfold dataOf at q; dsimp only at q; split at q <;> cases q; exact dp_of h.fz (.tup z f r) (by assumption)
  | tupZ z f r => unfold dataOf at q; dsimp only at q; split at q <;> cases q; exact dp_of h.fz (.tupZ z f r) (by assumption)
  | dicS _ _ => cases q
  | lst z f r => unfold dataOf at q; dsimp only at q; split at q <;> cases q; exact dp_of h.fz (.lst z f r) (by assumption)
  | non => cases q; exact .non
  | bl b => cases q; exact .bl b
  | int i => cases q; exact .int i
  | str s hs => cases q; exact .str s
  | dic0 _ => cases q
  | adr _ => cases q
  | ty _ => cases q
  | scr _ _ _ => cases q
  | xc0 _ => cases q
  | xc1 _ _ _ => cases q
/-- == -/
def eqB (x y : PyData) (S : Sto) : Res Bool := if SeqAt.shaped x = true ∧ SeqAt.shaped y = true then .ok (PyData.eqv x y) S else .bad
def fEq (x y : D) (S : Sto) : Res Bool := match dataOf S x, dataOf S y with
  | some (.str a), some (.str b) => .ok (decide (a = b)) S
  | some a, some b => eqB a.py b.py S
  | _, _ => .bad
def fNe (x y : D) (S : Sto) : Res Bool := (fEq x y S).bind fun b S1 => .ok (!b) S1
abbrev rEq2 (K : PySem.W.Frag) : R2 := fun x y H Q => rEq x y H Q ∨ rEqD K x y H Q
abbrev rNe2 (K : PySem.W.Frag) : R2 := fun x y H Q => rNe x y H Q ∨ rNeD K x y H Q
section
variable {X : Cx}
theorem op_eq2 (hu : X.A.units + 64 < cLine) : OpR X (compareOp .Eq) (rEq2 X.K) := op_eq.or (op_eqD hu)
theorem op_ne2 (hu : X.A.units + 64 < cLine) : OpR X (compareOp .NotEq) (rNe2 X.K) := op_ne.or (op_neD hu)
theorem str_data {K : PySem.W.Frag} {F : Hp} {m : List Addr} {S : Sto} {d : D} {v : V} {a : Str} (r : Rep K F m d v) (q : dataOf S d = some (.str a)) : v = .str a := by
  cases r with
  | @loc n a l =>
    rw [dataOf_loc] at q
    cases es : S[n]? with
    | none => rw [es] at q; cases q
    | some o =>
      rw [es] at q
      cases o with
      | lst xs => dsimp only at q; split at q <;> cases q
      | _ => cases q
  | str s h => cases q; rfl
  | _ => unfold dataOf at q; dsimp only at q; split at q <;> cases q
theorem k_eq : RCK X (rEq2 X.K) fEq := by
  intro H S F m x y dx dy Q E h rx ry p
  unfold fEq at p
  split at p
  · rename_i a b e1 e2
    rw [str_data rx e1, str_data ry e2]
    refine .inl ⟨rfl, _, rfl, p _ H F m h (Ext.refl _ _ _) ?_⟩
    by_cases z : a = b
    · subst z; simp
    · rw [decide_eq_false z, decide_eq_false (fun q => z (V.str.inj q))]
  · rename_i a b _ e1 e2
    unfold eqB at p
    split at p
    · rename_i hs
      exact .inr ⟨a.py, b.py, data_dp h rx e1, data_dp h ry e2, hs.1, hs.2, _, rfl, p _ H F m h (Ext.refl _ _ _) rfl⟩
    · exact p.elim
  · exact p.elim
theorem k_ne : RCK X (rNe2 X.K) fNe := by
  intro H S F m x y dx dy Q E h rx ry p
  unfold fNe fEq at p
  split at p
  · rename_i a b e1 e2
    rw [str_data rx e1, str_data ry e2]
    refine .inl ⟨rfl, _, rfl, p _ H F m h (Ext.refl _ _ _) ?_⟩
    by_cases z : a = b
    · subst z; simp
    · rw [decide_eq_false z, decide_eq_false (fun q => z (V.str.inj q))]
  · rename_i a b _ e1 e2
    unfold eqB at p
    split at p
    · rename_i hs
      exact .inr ⟨a.py, b.py, data_dp h rx e1, data_dp h ry e2, hs.1, hs.2, _, rfl, p _ H F m h (Ext.refl _ _ _) rfl⟩
    · exact p.elim
  · exact p.elim
theorem mono_eq2 {K : PySem.W.Frag} : ∀ x y H (Q Q' : VK), (∀ v H', Q v H' → Q' v H') → rEq2 K x y H Q → rEq2 K x y H Q' := fun _ _ _ _ _ k h => h.imp (fun q => ⟨q.1, k _ _ q.2⟩) fun ⟨d, e, h1, h2, h3, h4, q⟩ => ⟨d, e, h1, h2, h3, h4, k _ _ q⟩
theorem mono_ne2 {K : PySem.W.Frag} : ∀ x y H (Q Q' : VK), (∀ v H', Q v H' → Q' v H') → rNe2 K x y H Q → rNe2 K x y H Q' := fun _ _ _ _ _ k h => h.imp (fun q => ⟨q.1, k _ _ q.2⟩) fun ⟨d, e, h1, h2, h3, h4, q⟩ => ⟨d, e, h1, h2, h3, h4, k _ _ q⟩
def isNon : D → Bool
  | .non => true
  | _ => false
/-- x is None -/
def fIsN (x y : D) (S : Sto) : Res Bool := match y with
  | .non => .ok (isNon x) S
  | _ => .bad
def fNotN (x y : D) (S : Sto) : Res Bool := match y with
  | .non => .ok (!isNon x) S
  | _ => .bad
theorem rep_non {K : PySem.W.Frag} {F : Hp} {m : List Addr} {d : D} {v : V} (r : Rep K F m d v) : decide (v = .non) = isNon d := by cases r <;> rfl
theorem k_isN : RCK X (fun x y H Q => y = .non ∧ Q (.bl (decide (x = .non))) H) fIsN := by
  intro H S F m x y dx dy Q E h rx ry p
  cases ry with
  | non => exact ⟨rfl, _, rfl, p _ H F m h (Ext.refl _ _ _) (rep_non rx).symm⟩
  | _ => exact p.elim
theorem k_notN : RCK X (fun x y H Q => y = .non ∧ Q (.bl (!decide (x = .non))) H) fNotN := by
  intro H S F m x y dx dy Q E h rx ry p
  cases ry with
  | non => exact ⟨rfl, _, rfl, p _ H F m h (Ext.refl _ _ _) (by rw [rep_non rx])⟩
  | _ => exact p.elim
/-! ### built-ins by value -/
theorem callOr {f : Value} {r r' : List V → Hp → VK → Prop} (h : L2.CallR X f r) (h' : L2.CallR X f r') : L2.CallR X f (fun xs H Q => r xs H Q ∨ r' xs H Q) := by
  intro pins s σ H xs us Q I rv q
  exact q.elim (fun q => h pins s σ H xs us Q I rv q) (fun q => h' pins s σ H xs us Q I rv q)
def fLen (ds : List D) (S : Sto) : Res D := match ds with
  | [.str s] => .ok (.int (s.length : Nat)) S
  | [d] => match seqD S d with
    | some (_, xs) => .ok (.int (xs.length : Nat)) S
    | none => .bad
  | _ => .bad
theorem k_len : RLK X (fun xs H Q => ∃ x n, xs = [x] ∧ LenV X.K x H n ∧ Q (.int n) H) fLen := by
  intro H S F m xs ds Q E h r p
  unfold fLen at p
  split at p
  · rename_i s
    cases r with
    | cons a b =>
      cases b
      cases a with
      | str _ hs => exact ⟨V.str s, s.length, rfl, ⟨hs, rfl⟩, p (V.int (s.length : Nat)) H F m h (Ext.refl _ _ _) (.int _)⟩
  · rename_i d _
    cases r with
    | cons a b =>
      cases b
      split at p
      · rename_i k ys e
        obtain ⟨l, vs, rfl, h1, r1, _⟩ := seq_any h a e
        refine ⟨V.ref l, ys.length, rfl, ?_, p (V.int (ys.length : Nat)) H F m h (Ext.refl _ _ _) (.int _)⟩
        rcases h1 with h1 | h1
        · exact .inl ⟨vs, h1, r1.length⟩
        · exact .inr ⟨vs, h1, r1.length⟩
      · exact p.elim
  · exact p.elim
def fAbs (ds : List D) (S : Sto) : Res D := match ds with
  | [.int i] => .ok (.int (if i < 0 then -i else i)) S
  | _ => .bad
theorem k_abs : RLK X (fun xs H Q => ∃ i, xs = [.int i] ∧ Q (.int (if i < 0 then -i else i)) H) fAbs := by
  intro H S F m xs ds Q E h r p
  unfold fAbs at p
  split at p
  · rename_i i
    cases r with
    | cons a b =>
      cases b
      cases a with
      | int _ => exact ⟨i, rfl, p (V.int (if i < 0 then -i else i)) H F m h (Ext.refl _ _ _) (.int _)⟩
  · exact p.elim
def fInt (ds : List D) (S : Sto) : Res D := match ds with
  | [.int i] => .ok (.int i) S
  | [.bl k] => .ok (.int (if k then 1 else 0)) S
  | _ => .bad
theorem k_int : RLK X (fun xs H Q => (∃ i, xs = [.int i] ∧ Q (.int i) H) ∨ ∃ k, xs = [.bl k] ∧ Q (.int (if k then 1 else 0)) H) fInt := by
  intro H S F m xs ds Q E h r p
  unfold fInt at p
  split at p
  · rename_i i
    cases r with
    | cons a b =>
      cases b
      cases a with
      | int _ => exact .inl ⟨i, rfl, p (V.int i) H F m h (Ext.refl _ _ _) (.int _)⟩
  · rename_i k
    cases r with
    | cons a b =>
      cases b
      cases a with
      | bl _ => exact .inr ⟨k, rfl, p (V.int (if k then 1 else 0)) H F m h (Ext.refl _ _ _) (.int _)⟩
  · exact p.elim
def fMax2 (ds : List D) (S : Sto) : Res D := match ds with
  | [.int i, .int j] => .ok (.int (if j > i then j else i)) S
  | _ => .bad
def fMin2 (ds : List D) (S : Sto) : Res D := match ds with
  | [.int i, .int j] => .ok (.int (if j < i then j else i)) S
  | _ => .bad
theorem k_max2 : RLK X (fun xs H Q => ∃ i j, xs = [.int i, .int j] ∧ Q (.int (if j > i then j else i)) H) fMax2 := by
  intro H S F m xs ds Q E h r p
  unfold fMax2 at p
  split at p
  · rename_i i j
    cases r with
    | cons a b => cases b with
      | cons b c =>
        cases c
        cases a with
        | int _ => cases b with
          | int _ => exact ⟨i, j, rfl, p (V.int (if j > i then j else i)) H F m h (Ext.refl _ _ _) (.int _)⟩
  · exact p.elim
theorem k_min2 : RLK X (fun xs H Q => ∃ i j, xs = [.int i, .int j] ∧ Q (.int (if j < i then j else i)) H) fMin2 := by
  intro H S F m xs ds Q E h r p
  unfold fMin2 at p
  split at p
  · rename_i i j
    cases r with
    | cons a b => cases b with
      | cons b c =>
        cases c
        cases a with
        | int _ => cases b with
          | int _ => exact ⟨i, j, rfl, p (V.int (if j < i then j else i)) H F m h (Ext.refl _ _ _) (.int _)⟩
  · exact p.elim
/-- tuple(x) -/
def fTuple (ds : List D) (S : Sto) : Res D := match ds with
  | [d] => match seqD S d with
    | some (.scr, _) => .bad
    | some (.tup, _) => .ok d S
    | some (_, xs) => .ok (.tup xs) S
    | none => .bad
  | _ => .bad
theorem k_tuple : RLK X (fun xs H Q => ∃ p ys, xs = [.ref p] ∧ ((SqL X.K H p ys ∧ ∀ l, H l = none → Q (.ref l) (upd H l (.tup ys))) ∨ (SqT X.K H p ys ∧ Q (.ref p) H))) fTuple := by
  intro H S F m xs ds Q E h r p
  unfold fTuple at p
  split at p
  · cases r with
    | cons a b =>
      cases b
      split at p
      · exact p.elim
      · rename_i ys e
        obtain ⟨l, vs, rfl, h1, r1, z⟩ := seq_tup h a e
        exact ⟨l, vs, rfl, .inr ⟨.inl h1, p _ H F m h (Ext.refl _ _ _) a⟩⟩
      · rename_i k ys hk hk2 e
        cases k with
        | lst =>
          obtain ⟨l, vs, rfl, h1, r1, z⟩ := seq_lst h a e
          exact ⟨l, vs, rfl, .inl ⟨.inl (.inl h1), post_tup h r1 z p⟩⟩
        | tup => exact (hk2 rfl).elim
        | scr => exact (hk rfl).elim
      · exact p.elim
  · exact p.elim
/-! ### repr -/
def fRepr (ds : List D) (S : Sto) : Res D := match ds with
  | [d] => match dataOf S d with
    | some e => if e.py.showable = true ∧ e.py.shown.length ≤ sizeLine ∧ e.py.depth ≤ 60 then .ok (.str e.py.shown) S else .bad
    | none => .bad
  | _ => .bad
def rRepr (K : PySem.W.Frag) : List V → Hp → VK → Prop := fun xs H Q => ∃ x d, xs = [x] ∧ Dp K H x d ∧ d.hasDict = false ∧ d.showable = true ∧ d.shown.length ≤ sizeLine ∧ d.depth ≤ 60 ∧ Q (.str d.shown) H
theorem call_repr {j : Nat} (ok : XOk X j) : CallR X (.builtin "repr") (rRepr X.K) := by
  intro pins s σ H xs us Q I r h
  obtain ⟨x, d, rfl, hd, nd, hs, hz, hdep, q⟩ := h
  obtain ⟨u, rfl, ru⟩ := vals1 r
  obtain ⟨as, rd⟩ := Dp.reads I d x u hd ru
  have hun := ok.room.units
  cases hd with
  | lst _ _ => cases ru; exact repr_of_reads' rd hs (PyData.noDict_hsm nd) ok.grd (by omega) (fun _ _ z => z) (fun h' t tk hk => ⟨.str _, H, I.kept hk, ⟨_, rfl⟩, q⟩) hz
  | tup _ _ => cases ru; exact repr_of_reads' rd hs (PyData.noDict_hsm nd) ok.grd (by omega) (fun _ _ z => z) (fun h' t tk hk => ⟨.str _, H, I.kept hk, ⟨_, rfl⟩, q⟩) hz
  | non => cases ru; exact PySem.P.repr_of_none ⟨.str _, H, I.tok _, ⟨_, rfl⟩, by simpa only [PyData.shown] using q⟩
  | bl b => cases ru; exact PySem.P.repr_of_bool ⟨.str _, H, I.tok _, ⟨_, rfl⟩, by simpa only [PyData.shown] using q⟩
  | int i =>
    obtain ⟨t, rfl⟩ := ru
    exact PySem.P.repr_of_int (by simpa [PyData.showable] using hs) ⟨.str _, H, I.tok _, ⟨_, rfl⟩, by simpa only [PyData.shown] using q⟩
  | str z =>
    obtain ⟨t, rfl⟩ := ru
    exact PySem.P.repr_of_str ⟨.str _, H, I.tok _, ⟨_, rfl⟩, by simpa only [PyData.shown] using q⟩ (by simpa only [PyData.shown] using hz)
mutual
theorem isD_nd : ∀ {d : D}, d.isD = true → d.py.hasDict = false
  | .non, _ => rfl
  | .bl _, _ => rfl
  | .int _, _ => rfl
  | .str _, _ => rfl
  | .tup xs, h => by simp only [D.py, PyData.hasDict]; exact isL_nd h
  | .tupZ xs, h => by simp only [D.py, PyData.hasDict]; exact isL_nd h
  | .dicS _, h => by cases h
  | .xc _ _ _, h => by cases h
  | .lst xs, h => by simp only [D.py, PyData.hasDict]; exact isL_nd h
  | .scr _, h => by cases h
  | .dic0, h => by cases h
  | .loc _, h => by cases h
  | .adr _, h => by cases h
  | .ty _, h => by cases h
theorem isL_nd : ∀ {ds : List D}, D.isL ds = true → PyData.hasDictAll (D.pyL ds) = false
  | [], _ => rfl
  | d :: ds, h => by
    simp [D.isL] at h
    simp only [D.pyL, PyData.hasDictAll, isD_nd h.1, isL_nd h.2, Bool.or_false]
end
theorem dataOf_isD {S : Sto} {d e : D} (q : dataOf S d = some e) : e.isD = true := by
  unfold dataOf at q
  split at q
  · split at q
    · split at q
      · cases q; simpa [D.isD] using (by assumption)
      · cases q
    · cases q
  · split at q
    · cases q; assumption
    · cases q
theorem k_repr : RLK X (rRepr X.K) fRepr := by
  intro H S F m xs ds Q E h r p
  unfold fRepr at p
  split at p
  · cases r with
    | cons a b =>
      cases b
      split at p
      · rename_i e he
        split at p
        · rename_i hc
          exact ⟨_, e.py, rfl, data_dp h a he, isD_nd (dataOf_isD he), hc.1, hc.2.1, hc.2.2, p _ H F m h (Ext.refl _ _ _) (.str _ hc.2.1)⟩
        · exact p.elim
      · exact p.elim
  · exact p.elim
end
end DL

/-! DL: what a for walks, stores, lists made. -/
namespace DL
open PySem PySem.Spec PyProof.Rows L2
def seqI (d : D) (S : Sto) : Res (List D) := match d with
  | .lst xs => .ok xs S
  | .tup xs => .ok xs S
  | .tupZ xs => .ok xs S
  | .scr xs => .ok xs S
  | _ => .bad
def dItems (e : Ev D) : Ev (List D) := fun ρ S => (e ρ S).bind seqI
def rngI (lo : Int) (n : Nat) : List D := (List.range n).map fun i => D.int (lo + (i : Nat))
def fRange (ds : List D) (S : Sto) : Res (List D) := match ds with
  | [.int j] => if j ≤ 16777216 ∧ -(2 ^ 62) ≤ j then .ok (rngI 0 j.toNat) S else .bad
  | [.int i, .int j] => if -(2 ^ 62) ≤ i ∧ i < 2 ^ 62 ∧ -(2 ^ 62) ≤ j ∧ j < 2 ^ 62 ∧ j - i ≤ 16777216 then .ok (rngI i (j - i).toNat) S else .bad
  | _ => .bad
def dRange (gs : Ev (List D)) : Ev (List D) := fun ρ S => (gs ρ S).bind fRange
def enumFrom' (i : Nat) : List D → List D
  | [] => []
  | d :: ds => .tup [.int (i : Nat), d] :: enumFrom' (i + 1) ds
def fEnum (ds : List D) (S : Sto) : Res (List D) := match ds with
  | [.lst xs] => .ok (enumFrom' 0 xs) S
  | [.tup xs] => .ok (enumFrom' 0 xs) S
  | [.tupZ xs] => .ok (enumFrom' 0 xs) S
  | _ => .bad
def dEnum (gs : Ev (List D)) : Ev (List D) := fun ρ S => (gs ρ S).bind fEnum
section
variable {X : Cx} {tg it e : Expr} {pos p tpos : Pos} {es : List Expr} {ge : Ev D} {gs : Ev (List D)} {K : PySem.W.Frag}
theorem pi_or {w1 w2 : TI} (h1 : PI X tg it w1) (h2 : PI X tg it w2) : PI X tg it (fun σ H R => w1 σ H R ∨ w2 σ H R) := ⟨fun pins s σ H R I q => q.elim (h1.run pins s σ H R I) (h2.run pins s σ H R I)⟩
theorem wk_list {a : Addr} {ds : List D} {vs : List V} {H0 F : Hp} {m : List Addr} (hq : SqL K F a vs) (r : RepL K F m ds vs) (z : ds.length ≤ sizeLine) : Walks K (Itl K a) ds H0 F m where
  go := fun i H S F' m' hi x h => ⟨vs, vs[i]'(by rw [← r.length]; exact hi), sqL_le h.fz (sqL_le x.f hq), by simp⟩
  stop := fun i H S F' m' hi x h => ⟨vs, sqL_le h.fz (sqL_le x.f hq), by rw [← r.length]; exact hi⟩
  len := z
  yld := fun i H S F' m' v H' hi x h y => by
    obtain ⟨rfl, y⟩ := y
    obtain ⟨d, e1, r1⟩ := r.getV (y vs (sqL_le h.fz (sqL_le x.f hq)))
    exact ⟨F', d, h, Ext.refl _ _ _, e1, r1.le x.le⟩
theorem wk_tup {a : Addr} {ds : List D} {vs : List V} {H0 F : Hp} {m : List Addr} (hq : SqT K F a vs) (r : RepL K F m ds vs) (z : ds.length ≤ sizeLine) : Walks K (Itt K a) ds H0 F m where
  go := fun i H S F' m' hi x h => ⟨vs, vs[i]'(by rw [← r.length]; exact hi), sqT_le h.fz (sqT_le x.f hq), by simp⟩
  stop := fun i H S F' m' hi x h => ⟨vs, sqT_le h.fz (sqT_le x.f hq), by rw [← r.length]; exact hi⟩
  len := z
  yld := fun i H S F' m' v H' hi x h y => by
    obtain ⟨rfl, y⟩ := y
    obtain ⟨d, e1, r1⟩ := r.getV (y vs (sqT_le h.fz (sqT_le x.f hq)))
    exact ⟨F', d, h, Ext.refl _ _ _, e1, r1.le x.le⟩
theorem rng_get {lo : Int} {n i : Nat} (h : i < n) : (rngI lo n)[i]? = some (.int (lo + (i : Nat))) := by
  unfold rngI
  rw [List.getElem?_map, List.getElem?_range h]; rfl
theorem rng_len (lo : Int) (n : Nat) : (rngI lo n).length = n := by unfold rngI; simp
theorem wk_range {lo : Int} {n : Nat} {H0 F : Hp} {m : List Addr} (z : n ≤ sizeLine) : Walks K (Itr lo n) (rngI lo n) H0 F m where
  go := fun i H S F' m' hi x h => by rw [rng_len] at hi; exact hi
  stop := fun i H S F' m' hi x h => by rw [rng_len] at hi; exact hi
  len := by rw [rng_len]; exact z
  yld := fun i H S F' m' v H' hi x h y => by
    obtain ⟨rfl, rfl⟩ := y
    rw [rng_len] at hi
    exact ⟨F', _, h, Ext.refl _ _ _, rng_get hi, .int _⟩
theorem enum_get : ∀ (ds : List D) (k i : Nat), (enumFrom' k ds)[i]? = ds[i]?.map fun d => .tup [.int ((k + i : Nat) : Int), d]
  | [], _, _ => by simp [enumFrom']
  | d :: ds, k, 0 => by simp [enumFrom']
  | d :: ds, k, i + 1 => by
    show (enumFrom' (k + 1) ds)[i]? = _
    rw [enum_get ds (k + 1) i]
    have e : k + 1 + i = k + (i + 1) := by omega
    rw [e]; rfl
theorem enum_len : ∀ (ds : List D) (k : Nat), (enumFrom' k ds).length = ds.length
  | [], _ => rfl
  | _ :: ds, k => congrArg (· + 1) (enum_len ds (k + 1))
theorem wk_enumL {a : Addr} {ds : List D} {vs : List V} {H0 F : Hp} {m : List Addr} (hq : SqL K F a vs) (r : RepL K F m ds vs) (z : ds.length ≤ sizeLine) : Walks K (Ite K a) (enumFrom' 0 ds) H0 F m where
  go := fun i H S F' m' hi x h => ⟨vs, vs[i]'(by rw [← r.length, ← enum_len ds 0]; exact hi), sqL_le h.fz (sqL_le x.f hq), by simp⟩
  stop := fun i H S F' m' hi x h => ⟨vs, sqL_le h.fz (sqL_le x.f hq), by rw [← r.length, ← enum_len ds 0]; exact hi⟩
  len := by rw [enum_len]; exact z
  yld := fun i H S F' m' v H' hi x h y => by
    obtain ⟨T, w, rfl, hT, rfl, y⟩ := y
    obtain ⟨d, e1, r1⟩ := r.getV (y vs (sqL_le h.fz (sqL_le x.f hq)))
    exact ⟨_, .tup [.int (i : Nat), d], h.froz hT _, h.frozE hT _, by rw [enum_get, e1, Nat.zero_add]; rfl, .tup (by show 2 ≤ sizeLine; decide) upd_same (.cons (.int _) (.cons (r1.le (x.le.trans (h.frozE hT _).le)) .nil))⟩
theorem di_seq (he : DE X it ge) : DI X tg it (dItems ge) := by
  refine ⟨fun W tk => ?_⟩
  obtain ⟨t, pt, rt⟩ := he.ex W tk
  refine ⟨_, pi_or (pi_list pt) (pi_tup pt), fun σ H ρ S F m R sl h p => ?_⟩
  unfold dItems at p
  cases eg : ge ρ S with
  | bad => rw [eg] at p; exact p.elim
  | exc y S1 => exact .inl (rt σ H ρ S F m _ sl h (by rw [eg] at p ⊢; exact p))
  | ok d S1 =>
    rw [eg] at p
    dsimp only [Res.bind] at p
    cases d with
    | lst xs =>
      refine .inl (rt σ H ρ S F m _ sl h (by
        rw [eg]
        intro v H1 F1 m1 h1 x1 r1
        cases r1 with
        | lst z f q => exact ⟨_, rfl, ⟨_, .inl (.inl (h1.fz _ _ f))⟩, p _ H1 F1 m1 h1 x1 (wk_list (.inl (.inl f)) q z)⟩))
    | scr xs =>
      refine .inl (rt σ H ρ S F m _ sl h (by
        rw [eg]
        intro v H1 F1 m1 h1 x1 r1
        cases r1 with
        | scr z f q => exact ⟨_, rfl, ⟨_, sqL_le h1.fz f⟩, p _ H1 F1 m1 h1 x1 (wk_list f q z)⟩))
    | tup xs =>
      refine .inr (rt σ H ρ S F m _ sl h (by
        rw [eg]
        intro v H1 F1 m1 h1 x1 r1
        cases r1 with
        | tup z f q => exact ⟨_, rfl, ⟨_, .inl (.inl (h1.fz _ _ f))⟩, p _ H1 F1 m1 h1 x1 (wk_tup (.inl (.inl f)) q z)⟩))
    | tupZ xs =>
      refine .inr (rt σ H ρ S F m _ sl h (by
        rw [eg]
        intro v H1 F1 m1 h1 x1 r1
        cases r1 with
        | tupZ z f q =>
          obtain ⟨o, f, _⟩ := f
          exact ⟨_, rfl, ⟨_, .inl (.inr ⟨o, h1.fz _ _ f⟩)⟩, p _ H1 F1 m1 h1 x1 (wk_tup (.inl (.inr ⟨o, f⟩)) q z)⟩))
    | _ => exact p.elim
theorem di_range1 (hg : Gl X "range") (hm : X.mg "range" = none) (ha : DA X [e] gs) (hs : starEach [e] X.env = [(false, eval e X.env)] := by rfl) (hn : ∀ ρ S ds S', gs ρ S = .ok ds S' → ds.length = 1) : DI X tg (.Call (.Name "range" p) [e] [] pos) (dRange gs) := by
  refine ⟨fun W tk => ?_⟩
  obtain ⟨t, pt, rt⟩ := ha.ex W tk
  refine ⟨_, pi_range1 hg hm pt hs, fun σ H ρ S F m R sl h q => ?_⟩
  refine rt σ H ρ S F m _ sl h ?_
  unfold dRange at q
  cases eg : gs ρ S with
  | bad => rw [eg] at q; exact q.elim
  | exc y S1 => rw [eg] at q; exact q
  | ok ds S1 =>
    have hl := hn _ _ _ _ eg
    rw [eg] at q
    intro vs H1 F1 m1 h1 x1 r1
    dsimp only [Res.bind, fRange] at q
    split at q
    · rename_i q' e1
      split at e1
      · rename_i j
        split at e1
        · rename_i hc
          cases e1
          cases r1 with
          | cons a b =>
            cases b
            cases a
            exact ⟨j, rfl, hc.2, by omega, q _ H1 F1 m1 h1 x1 (wk_range (by rw [sizeLine_eq]; omega))⟩
        · cases e1
      · cases hl
      · cases e1
    · rename_i q' e1
      split at e1 <;> first | cases e1 | (split at e1 <;> cases e1)
    · exact q.elim
theorem di_range2 {e2 : Expr} (hg : Gl X "range") (hm : X.mg "range" = none) (ha : DA X [e, e2] gs) (hs : starEach [e, e2] X.env = [(false, eval e X.env), (false, eval e2 X.env)] := by rfl) (hs2 : starEach [e2] X.env = [(false, eval e2 X.env)] := by rfl) (hn : ∀ ρ S ds S', gs ρ S = .ok ds S' → ds.length = 2) : DI X tg (.Call (.Name "range" p) [e, e2] [] pos) (dRange gs) := by
  refine ⟨fun W tk => ?_⟩
  obtain ⟨t, pt, rt⟩ := ha.ex W tk
  refine ⟨_, pi_range2 hg hm pt hs hs2, fun σ H ρ S F m R sl h q => ?_⟩
  refine rt σ H ρ S F m _ sl h ?_
  unfold dRange at q
  cases eg : gs ρ S with
  | bad => rw [eg] at q; exact q.elim
  | exc y S1 => rw [eg] at q; exact q
  | ok ds S1 =>
    have hl := hn _ _ _ _ eg
    rw [eg] at q
    intro vs H1 F1 m1 h1 x1 r1
    dsimp only [Res.bind, fRange] at q
    split at q
    · rename_i q' e1
      split at e1
      · cases hl
      · rename_i i j
        split at e1
        · rename_i hc
          cases e1
          cases r1 with
          | cons a b =>
            cases b with
            | cons b c =>
              cases c
              cases a
              cases b
              exact ⟨i, j, rfl, ⟨hc.1, hc.2.1, hc.2.2.1, hc.2.2.2.1⟩, q _ H1 F1 m1 h1 x1 (wk_range (by rw [sizeLine_eq]; omega))⟩
        · cases e1
      · cases e1
    · rename_i q' e1
      split at e1 <;> first | cases e1 | (split at e1 <;> cases e1)
    · exact q.elim
/-! ### o[i] = v -/
def setD (o i d : D) (S : Sto) : Option Sto := match o, i with
  | .loc n, .int k => match S[n]? with
    | some (.lst xs) => match ixN xs.length k with
      | some j => some (S.set n (.lst (xs.set j d)))
      | none => none
    | _ => none
  | _, _ => none
def dSub (e o i : Ev D) : St' := fun ρ S => (e ρ S).bindS ρ fun d S1 => (o ρ S1).bindS ρ fun x S2 => (i ρ S2).bindS ρ fun y S3 => match setD x y d S3 with
  | some S4 => .nx ρ S4
  | none => .bad
theorem ds_sub {eo ei : Expr} {go gi : Ev D} (h : DE X e ge) (ho : DE X eo go) (hi : DE X ei gi) (hs : swapsWithSole [.Subscript eo ei tpos] e pos.line X.env = pure false := by rfl) (hw : swappedStores [.Subscript eo ei tpos] e X.env = pure none := by rfl)
    (h1 : (assignEach [.Subscript eo ei tpos] X.env).map (·.2) = [assign (.Subscript eo ei tpos) X.env] := by rfl)
    (ha : ∀ v, assign (.Subscript eo ei tpos) X.env v = (do
      let ov ← holding [v] (eval eo X.env)
      let iv ← holding [v, ov] (eval ei X.env)
      standAt tpos
      holding [v, ov, iv] (setItem ov iv v)
      release [v, ov, iv] []) := by intro _; rfl) : DS X (.Assign [.Subscript eo ei tpos] e pos) (dSub ge go gi) := by
  refine ⟨fun W tk => ?_⟩
  obtain ⟨t, pt, rt⟩ := h.ex W tk
  obtain ⟨t1, pt1, rt1⟩ := ho.ex W tk
  obtain ⟨t2, pt2, rt2⟩ := hi.ex W tk
  refine ⟨_, ps_asg pt (pg_sub pt1 pt2 set_list ha) hs hw h1, fun σ H ρ S F m N sl h p => ?_⟩
  refine rt σ H ρ S F m _ sl h (Post.bindS sl p fun d S1 v H1 F1 m1 h1 x1 r1 p1 => ?_)
  refine rt1 σ H1 ρ S1 F1 m1 _ (sl.le x1.le) h1 (Post.bindS (sl.le x1.le) p1 fun o S2 ov H2 F2 m2 h2 x2 r2 p2 => ?_)
  refine rt2 σ H2 ρ S2 F2 m2 _ (sl.le (x1.trans x2).le) h2 (Post.bindS (sl.le (x1.trans x2).le) p2 fun i S3 iv H3 F3 m3 h3 x3 r3 p3 => ?_)
  split at p3
  · rename_i S4 e4
    unfold setD at e4
    split at e4
    · rename_i n k
      split at e4
      · rename_i xs es
        split at e4
        · rename_i j ej
          cases e4
          cases r3
          cases r2.le x3.le with
          | loc l =>
            obtain ⟨fa, ho', hH, vs, rfl, z, rv⟩ := h3.sto _ _ _ l es (by intro z; cases z)
            have rw' : RepL X.K F3 m3 (xs.set j d) (vs.set j v) := rv.set j (r1.le (x2.trans x3).le)
            obtain ⟨h4, x4⟩ := h3.write l es (by intro z; cases z) (o := .lst (xs.set j d)) (ho := .lst (vs.set j v)) ⟨_, rfl, by rw [List.length_set]; exact z, rw'⟩
            exact ⟨_, vs, k, j, rfl, rfl, hH, by rw [← rv.length]; exact ej, p3 σ _ F3 m3 (sl.le (x1.trans (x2.trans x3)).le) h4 x4⟩
        · cases e4
      · cases e4
    · cases e4
  · exact p3.elim
/-! ### a, b = x, y -/
def dPar (i j : Nat) (gs : Ev (List D)) : St' := fun ρ S => (gs ρ S).bindS ρ fun ds S1 => match ds with
  | [d, e] => .nx ((ρ.set i (some d)).set j (some e)) S1
  | _ => .bad
theorem ds_par {k : Nat} (i j : Nat) {x y : Str} {a b : Expr} {px py pt : Pos} {kt k2 pt2} (ok : XOk X k) (ha : DA X [a, b] gs) (hij : i ≠ j := by decide) (hi : X.N[i]? = some x := by rfl) (hj : X.N[j]? = some y := by rfl)
    (hx : X.env.scope.names.lookup x = some .local := by rfl) (hy : X.env.scope.names.lookup y = some .local := by rfl) (hw : swappedStores [.Tuple [.Name x px, .Name y py] kt pt] (.Tuple [a, b] k2 pt2) X.env = pure (some [x, y]) := by rfl)
    (hs : swapsWithSole [.Tuple [.Name x px, .Name y py] kt pt] (.Tuple [a, b] k2 pt2) pos.line X.env = pure false := by rfl) : DS X (.Assign [.Tuple [.Name x px, .Name y py] kt pt] (.Tuple [a, b] k2 pt2) pos) (dPar i j gs) := by
  refine ⟨fun W tk => ?_⟩
  obtain ⟨t, pt, rt⟩ := ha.ex W tk
  refine ⟨_, ps_par ok.calm ok.nd hi hj hij hx hy pt hw hs, fun σ H ρ S F m N sl h p => ?_⟩
  refine rt σ H ρ S F m _ sl h (Post.bindS sl p fun ds S1 vs H1 F1 m1 h1 x1 r1 p1 => ?_)
  split at p1
  · cases r1 with
    | cons r1 r2 => cases r2 with
      | cons r2 r3 =>
        cases r3
        exact ⟨_, _, rfl, p1 _ H1 F1 m1 (((sl.le x1.le).set i r1).set j r2) h1 (Ext.refl _ _ _)⟩
  · exact p1.elim
theorem de_callV {x : Str} {r : List V → Hp → VK → Prop} {f : List D → Sto → Res D} (hf : RLK X r f) (ha : DA X (e :: es) gs) (hpe : ∀ {t : TA}, PA X (e :: es) t → PE X (.Call (.Name x p) (e :: es) [] pos) (tCB r t)) : DE X (.Call (.Name x p) (e :: es) [] pos) (dCall f gs) := by
  refine ⟨fun W tk => ?_⟩
  obtain ⟨ta, pa, ra⟩ := ha.ex W tk
  refine ⟨_, hpe pa, fun σ H ρ S F m Q sl h q => ?_⟩
  exact ra σ H ρ S F m _ sl h (Post.bind q fun d S1 v H1 F1 m1 h1 x1 r1 p1 => hf H1 S1 F1 m1 v d Q _ h1 r1 p1)
theorem mono_isN : ∀ (x y : V) H (Q Q' : VK), (∀ v H', Q v H' → Q' v H') → (y = V.non ∧ Q (.bl (decide (x = .non))) H) → (y = V.non ∧ Q' (.bl (decide (x = .non))) H) := fun _ _ _ _ _ k h => ⟨h.1, k _ _ h.2⟩
theorem mono_notN : ∀ (x y : V) H (Q Q' : VK), (∀ v H', Q v H' → Q' v H') → (y = V.non ∧ Q (.bl (!decide (x = .non))) H) → (y = V.non ∧ Q' (.bl (!decide (x = .non))) H) := fun _ _ _ _ _ k h => ⟨h.1, k _ _ h.2⟩
/-! ### lists made -/
def fList (ds : List D) (S : Sto) : Res (List D) := match ds with
  | [d] => match seqD S d with
    | some (_, xs) => .ok xs S
    | none => .bad
  | _ => .bad
def RNK (X : Cx) (r : List V → Hp → VK → Prop) (f : List D → Sto → Res (List D)) : Prop := ∀ H S F m xs ds (Q : VK) E, HSt X.K H S F m → RepL X.K F m ds xs → PostN X.mg X.K H F m (f ds S) Q E → r xs H Q
def dCallN (f : List D → Sto → Res (List D)) (gs : Ev (List D)) : Ev (List D) := fun ρ S => (gs ρ S).bind f
theorem dn_call {x : Str} {r : List V → Hp → VK → Prop} {f : List D → Sto → Res (List D)} (hf : RNK X r f) (ha : DA X (e :: es) gs) (hpe : ∀ {t : TA}, PA X (e :: es) t → PE X (.Call (.Name x p) (e :: es) [] pos) (tCB r t)) : DN X (.Call (.Name x p) (e :: es) [] pos) (dCallN f gs) := by
  refine ⟨fun W tk => ?_⟩
  obtain ⟨ta, pa, ra⟩ := ha.ex W tk
  refine ⟨_, hpe pa, fun σ H ρ S F m Q sl h q => ?_⟩
  exact ra σ H ρ S F m _ sl h (Post.bindN q fun d S1 v H1 F1 m1 h1 x1 r1 p1 => hf H1 S1 F1 m1 v d Q _ h1 r1 p1)
theorem new_n {mg : Str → Option Value} {H F : Hp} {m : List Addr} {S : Sto} {Q : VK} {E : XW} {xs : List D} {vs : List V} (h : HSt K H S F m) (r : RepL K F m xs vs) (z : xs.length ≤ sizeLine) (p : PostN mg K H F m (.ok xs S) Q E) :
    ∀ a, H a = none → Q (.ref a) (upd H a (.lst vs)) := fun a n => by
  obtain ⟨h2, x2⟩ := h.lay n (.lst vs)
  exact p a vs _ F m h2 x2 n (by
    cases e : F a with
    | none => rfl
    | some u => rw [h.fz a u e] at n; cases n) (fun z => h.dom a z n) upd_same r z
theorem k_list : RNK X (fun xs H Q => ∃ p ys, xs = [.ref p] ∧ (SqL X.K H p ys ∨ SqT X.K H p ys) ∧ ∀ l, H l = none → Q (.ref l) (upd H l (.lst ys))) fList := by
  intro H S F m xs ds Q E h r p
  unfold fList at p
  split at p
  · cases r with
    | cons a b =>
      cases b
      split at p
      · rename_i k ys e
        obtain ⟨l, vs, rfl, h1, r1, z⟩ := seq_any h a e
        exact ⟨l, vs, rfl, h1, new_n h r1 z p⟩
      · exact p.elim
  · exact p.elim
end
end DL

/-! DL: reasoning about denotations: what is true at the end. -/
namespace DL
open PySem PySem.Spec PyProof.Rows L2
/-- what is true at the end; E: where an exception leaves -/
structure XP where
  p : XV → Sto → Prop
structure XPs where
  p : XV → DEnv → Sto → Prop
abbrev XPs.at (E : XPs) (ρ : DEnv) : XP := ⟨fun x S => E.p x ρ S⟩
abbrev XP.s (E : XP) : XPs := ⟨fun x _ S => E.p x S⟩
def WpE {α : Type} (E : XP) (r : Res α) (Q : α → Sto → Prop) : Prop := match r with
  | .ok a S => Q a S
  | .exc x S => E.p x S
  | .bad => False
def WsE (E : XPs) (r : SR) (N : DEnv → Sto → Prop) (R : D → Sto → Prop) (B C : DEnv → Sto → Prop) : Prop := match r with
  | .nx ρ S => N ρ S
  | .rt d S => R d S
  | .bk ρ S => B ρ S
  | .ct ρ S => C ρ S
  | .exc x ρ S => E.p x ρ S
  | .bad => False
abbrev noX : XP := ⟨fun _ _ => False⟩
abbrev noXs : XPs := ⟨fun _ _ _ => False⟩
section
variable {EX EX' : XP} {ES ES' : XPs}
variable {α β : Type} {Q Q' : α → Sto → Prop} {S : Sto} {ρ : DEnv} {N N' B B' C C' : DEnv → Sto → Prop} {R R' : D → Sto → Prop}
theorem wp_ok {a : α} : WpE EX (.ok a S) Q = Q a S := rfl
theorem wp_bad : WpE EX (.bad : Res α) Q = False := rfl
theorem wp_exc {x : XV} : WpE EX (.exc x S : Res α) Q = EX.p x S := rfl
theorem wp_bind {r : Res β} {k : β → Sto → Res α} : WpE EX (r.bind k) Q = WpE EX r fun a S => WpE EX (k a S) Q := by cases r <;> rfl
theorem wp_nox {r : Res α} : WpE EX r.nox Q = WpE noX r Q := by cases r <;> rfl
theorem ws_bindS {r : Res β} {k : β → Sto → SR} : WsE ES (r.bindS ρ k) N R B C = WpE (ES.at ρ) r fun a S => WsE ES (k a S) N R B C := by cases r <;> rfl
theorem ws_nx {σ : DEnv} : WsE ES (.nx σ S) N R B C = N σ S := rfl
theorem ws_rt {d : D} : WsE ES (.rt d S) N R B C = R d S := rfl
theorem ws_bk {σ : DEnv} : WsE ES (.bk σ S) N R B C = B σ S := rfl
theorem ws_ct {σ : DEnv} : WsE ES (.ct σ S) N R B C = C σ S := rfl
theorem ws_bad : WsE ES .bad N R B C = False := rfl
theorem WpE.imp {r : Res α} (h : WpE EX r Q) (k : ∀ a S, Q a S → Q' a S) (kx : ∀ x S, EX.p x S → EX'.p x S) : WpE EX' r Q' := by
  cases r with
  | ok a S => exact k _ _ h
  | exc x S => exact kx _ _ h
  | bad => exact h
theorem WpE.mp {r : Res α} (h : WpE EX r Q) (k : ∀ a S, Q a S → Q' a S) : WpE EX r Q' := h.imp k fun _ _ z => z
theorem Wp.imp {r : Res α} (h : WpE noX r Q) (k : ∀ a S, Q a S → Q' a S) : WpE EX r Q' := WpE.imp h k fun _ _ z => z.elim
theorem Wp.ex {r : Res α} (h : WpE noX r Q) : ∃ a S, r = .ok a S ∧ Q a S := by
  cases r with
  | ok a S => exact ⟨a, S, rfl, h⟩
  | exc _ _ => exact h.elim
  | bad => exact h.elim
theorem WsE.imp {r : SR} (h : WsE ES r N R B C) (k : ∀ a S, N a S → N' a S) (k2 : ∀ a S, R a S → R' a S) (k3 : ∀ a S, B a S → B' a S) (k4 : ∀ a S, C a S → C' a S) (kx : ∀ x a S, ES.p x a S → ES'.p x a S) : WsE ES' r N' R' B' C' := by
  cases r with
  | nx _ _ => exact k _ _ h
  | rt _ _ => exact k2 _ _ h
  | bk _ _ => exact k3 _ _ h
  | ct _ _ => exact k4 _ _ h
  | exc _ _ _ => exact kx _ _ _ h
  | bad => exact h
theorem Ws.imp {r : SR} (h : WsE ES r N R B C) (k : ∀ a S, N a S → N' a S) (k2 : ∀ a S, R a S → R' a S) : WsE ES r N' R' B C := h.imp k k2 (fun _ _ z => z) (fun _ _ z => z) fun _ _ _ z => z
/-! ### statements -/
theorem ws_seq {a b : St'} : WsE ES (dSeq a b ρ S) N R B C = WsE ES (a ρ S) (fun ρ1 S1 => WsE ES (b ρ1 S1) N R B C) R B C := by
  unfold dSeq
  cases a ρ S <;> rfl
theorem ws_next : WsE ES (dNext ρ S) N R B C = N ρ S := rfl
theorem ws_break : WsE ES (dBreak ρ S) N R B C = B ρ S := rfl
theorem ws_cont : WsE ES (dCont ρ S) N R B C = C ρ S := rfl
theorem ws_drop {e : Ev D} : WsE ES (dDrop e ρ S) N R B C = WpE (ES.at ρ) (e ρ S) fun _ S1 => N ρ S1 := by unfold dDrop; rw [ws_bindS]; rfl
theorem ws_ret {e : Ev D} : WsE ES (dRet e ρ S) N R B C = WpE (ES.at ρ) (e ρ S) R := by unfold dRet; rw [ws_bindS]; rfl
theorem ws_retN : WsE ES (dRetN ρ S) N R B C = R .non S := rfl
theorem ws_if {c : Ev Bool} {a b : St'} : WsE ES (dIfS c a b ρ S) N R B C = WpE (ES.at ρ) (c ρ S) fun k S1 => if k = true then WsE ES (a ρ S1) N R B C else WsE ES (b ρ S1) N R B C := by
  unfold dIfS
  rw [ws_bindS]
  congr 1
  funext k S1
  split <;> rfl
def toN (o : Option DEnv) (S : Sto) (N : DEnv → Sto → Prop) : Prop := match o with
  | some ρ => N ρ S
  | none => False
theorem toN_some : toN (some ρ) S N = N ρ S := rfl
theorem ws_asg {e : Ev D} {g : Tg} : WsE ES (dAsg e g ρ S) N R B C = WpE (ES.at ρ) (e ρ S) fun d S1 => toN (g d ρ) S1 N := by
  unfold dAsg
  rw [ws_bindS]
  congr 1
  funext d S1
  cases g d ρ <;> rfl
def parN (i j : Nat) (ρ : DEnv) (ds : List D) (S : Sto) (N : DEnv → Sto → Prop) : Prop := match ds with
  | [d, e] => N ((ρ.set i (some d)).set j (some e)) S
  | _ => False
theorem ws_par {i j : Nat} {gs : Ev (List D)} : WsE ES (dPar i j gs ρ S) N R B C = WpE (ES.at ρ) (gs ρ S) fun ds S1 => parN i j ρ ds S1 N := by
  unfold dPar
  rw [ws_bindS]
  congr 1
  funext ds S1
  match ds with
  | [] => rfl
  | [_] => rfl
  | [_, _] => rfl
  | _ :: _ :: _ :: _ => rfl
theorem ws_parN {i j : Nat} {d e : D} : parN i j ρ [d, e] S N = N ((ρ.set i (some d)).set j (some e)) S := rfl
theorem ws_sub {e o i : Ev D} : WsE ES (dSub e o i ρ S) N R B C = WpE (ES.at ρ) (e ρ S) fun d S1 => WpE (ES.at ρ) (o ρ S1) fun x S2 => WpE (ES.at ρ) (i ρ S2) fun y S3 => ∃ S4, setD x y d S3 = some S4 ∧ N ρ S4 := by
  unfold dSub
  rw [ws_bindS]
  congr 1
  funext d S1
  rw [ws_bindS]
  congr 1
  funext x S2
  rw [ws_bindS]
  congr 1
  funext y S3
  cases setD x y d S3 with
  | none => simp [WsE]
  | some S4 => simp [WsE]
theorem ws_for {s : Ev (List D)} {g : Tg} {b : St'} : WsE ES (dFor s g b ρ S) N R B C = WpE (ES.at ρ) (s ρ S) fun ds S1 => WsE ES (forGo g b ds ρ S1) N R B C := by unfold dFor; rw [ws_bindS]
/-! ### expressions -/
theorem wp_k {d : D} {Q : D → Sto → Prop} : WpE EX (dK d ρ S) Q = Q d S := rfl
theorem wp_nil {Q : List D → Sto → Prop} : WpE EX (dNil ρ S) Q = Q [] S := rfl
theorem wp_cons {a : Ev D} {r : Ev (List D)} {Q : List D → Sto → Prop} : WpE EX (dCons a r ρ S) Q = WpE EX (a ρ S) fun d S1 => WpE EX (r ρ S1) fun ds S2 => Q (d :: ds) S2 := by unfold dCons; rw [wp_bind]; congr 1; funext d S1; rw [wp_bind]; rfl
theorem wp_tup {t : Ev (List D)} {Q : D → Sto → Prop} : WpE EX (dTup t ρ S) Q = WpE EX (t ρ S) fun ds S1 => ds.length ≤ sizeLine ∧ Q (.tup ds) S1 := by
  unfold dTup; rw [wp_bind]; congr 1; funext ds S1; split <;> simp [WpE, *]
theorem wp_dis {t : Ev (List D)} {Q : List D → Sto → Prop} : WpE EX (dDis t ρ S) Q = WpE EX (t ρ S) fun ds S1 => ds.length ≤ sizeLine ∧ Q ds S1 := by
  unfold dDis; rw [wp_bind]; congr 1; funext ds S1; split <;> simp [WpE, *]
theorem wp_fz {t : Ev (List D)} {Q : D → Sto → Prop} : WpE EX (dFz t ρ S) Q = WpE EX (t ρ S) fun ds S1 => Q (.lst ds) S1 := by unfold dFz; rw [wp_bind]; rfl
theorem wp_nw {t : Ev (List D)} {Q : D → Sto → Prop} : WpE EX (dNw t ρ S) Q = WpE EX (t ρ S) fun ds S1 => Q (.loc S1.length) (S1 ++ [.lst ds]) := by unfold dNw; rw [wp_bind]; rfl
theorem wp_un {f : D → Sto → Res D} {a : Ev D} {Q : D → Sto → Prop} : WpE EX (dUn f a ρ S) Q = WpE EX (a ρ S) fun x S1 => WpE EX (f x S1) Q := wp_bind
theorem wp_op {f : D → D → Sto → Res D} {a b : Ev D} {Q : D → Sto → Prop} : WpE EX (dOp f a b ρ S) Q = WpE EX (a ρ S) fun x S1 => WpE EX (b ρ S1) fun y S2 => WpE EX (f x y S2) Q := by unfold dOp; rw [wp_bind]; congr 1; funext d S1; rw [wp_bind]
theorem wp_cm {f : D → D → Sto → Res Bool} {a b : Ev D} {Q : Bool → Sto → Prop} : WpE EX (dCm f a b ρ S) Q = WpE EX (a ρ S) fun x S1 => WpE EX (b ρ S1) fun y S2 => WpE EX (f x y S2) Q := by unfold dCm; rw [wp_bind]; congr 1; funext d S1; rw [wp_bind]
theorem wp_ch {f f' : D → D → Sto → Res Bool} {a b c : Ev D} {Q : Bool → Sto → Prop} : WpE EX (dCh f f' a b c ρ S) Q = WpE EX (a ρ S) fun x S1 => WpE EX (b ρ S1) fun y S2 => WpE EX (f x y S2) fun k S3 => if k = true then WpE EX (c ρ S3) fun z S4 => WpE EX (f' y z S4) Q else Q false S3 := by
  unfold dCh; rw [wp_bind]; congr 1; funext d S1; rw [wp_bind]; congr 1; funext y S2; rw [wp_bind]; congr 1; funext k S3
  split
  · rw [wp_bind]
  · rfl
theorem wp_bl {a : Ev Bool} {Q : D → Sto → Prop} : WpE EX (dBl a ρ S) Q = WpE EX (a ρ S) fun b S1 => Q (.bl b) S1 := by unfold dBl; rw [wp_bind]; rfl
theorem wp_val {a : Ev D} {Q : Bool → Sto → Prop} : WpE EX (dVal a ρ S) Q = WpE EX (a ρ S) fun d S1 => WpE EX (asB d S1) Q := by unfold dVal; rw [wp_bind]
theorem wp_asB {b : Bool} {Q : Bool → Sto → Prop} : WpE EX (asB (.bl b) S) Q = Q b S := rfl
theorem wp_if {c : Ev Bool} {a b : Ev α} : WpE EX (dIf c a b ρ S) Q = WpE EX (c ρ S) fun k S1 => if k = true then WpE EX (a ρ S1) Q else WpE EX (b ρ S1) Q := by unfold dIf; rw [wp_bind]; congr 1; funext k S1; split <;> rfl
theorem wp_and {a b : Ev Bool} {Q : Bool → Sto → Prop} : WpE EX (dAnd a b ρ S) Q = WpE EX (a ρ S) fun k S1 => if k = true then WpE EX (b ρ S1) Q else Q false S1 := by unfold dAnd; rw [wp_bind]; congr 1; funext k S1; split <;> rfl
theorem wp_or {a b : Ev Bool} {Q : Bool → Sto → Prop} : WpE EX (dOr a b ρ S) Q = WpE EX (a ρ S) fun k S1 => if k = true then Q true S1 else WpE EX (b ρ S1) Q := by unfold dOr; rw [wp_bind]; congr 1; funext k S1; split <;> rfl
theorem wp_not {a : Ev Bool} {Q : Bool → Sto → Prop} : WpE EX (dNot a ρ S) Q = WpE EX (a ρ S) fun k S1 => Q (!k) S1 := by unfold dNot; rw [wp_bind]; rfl
theorem wp_andV {a b : Ev D} {Q : D → Sto → Prop} : WpE EX (dAndV a b ρ S) Q = WpE EX (a ρ S) fun x S1 => WpE EX (asB x S1) fun k S2 => if k = true then WpE EX (b ρ S2) Q else Q (.bl false) S2 := by
  unfold dAndV; rw [wp_bind]; congr 1; funext x S1; rw [wp_bind]; congr 1; funext k S2; split <;> rfl
theorem wp_orV {a b : Ev D} {Q : D → Sto → Prop} : WpE EX (dOrV a b ρ S) Q = WpE EX (a ρ S) fun x S1 => WpE EX (asB x S1) fun k S2 => if k = true then Q (.bl true) S2 else WpE EX (b ρ S2) Q := by
  unfold dOrV; rw [wp_bind]; congr 1; funext x S1; rw [wp_bind]; congr 1; funext k S2; split <;> rfl
theorem wp_notV {a : Ev D} {Q : D → Sto → Prop} : WpE EX (dNotV a ρ S) Q = WpE EX (a ρ S) fun x S1 => WpE EX (asB x S1) fun k S2 => Q (.bl (!k)) S2 := by
  unfold dNotV; rw [wp_bind]; congr 1; funext x S1; rw [wp_bind]; rfl
theorem wp_call {f : List D → Sto → Res D} {gs : Ev (List D)} {Q : D → Sto → Prop} : WpE EX (dCall f gs ρ S) Q = WpE EX (gs ρ S) fun ds S1 => WpE EX (f ds S1) Q := by unfold dCall; rw [wp_bind]
theorem wp_callN {f : List D → Sto → Res (List D)} {gs : Ev (List D)} {Q : List D → Sto → Prop} : WpE EX (dCallN f gs ρ S) Q = WpE EX (gs ρ S) fun ds S1 => WpE EX (f ds S1) Q := by unfold dCallN; rw [wp_bind]
theorem wp_items {e : Ev D} {Q : List D → Sto → Prop} : WpE EX (dItems e ρ S) Q = WpE EX (e ρ S) fun d S1 => WpE EX (seqI d S1) Q := by unfold dItems; rw [wp_bind]
theorem wp_range {gs : Ev (List D)} {Q : List D → Sto → Prop} : WpE EX (dRange gs ρ S) Q = WpE EX (gs ρ S) fun ds S1 => WpE EX (fRange ds S1) Q := by unfold dRange; rw [wp_bind]
theorem wp_enum {gs : Ev (List D)} {Q : List D → Sto → Prop} : WpE EX (dEnum gs ρ S) Q = WpE EX (gs ρ S) fun ds S1 => WpE EX (fEnum ds S1) Q := by unfold dEnum; rw [wp_bind]
theorem wp_lc {s : Ev (List D)} {g : Tg} {t : Ev Bool} {e : Ev D} {vs : List Nat} {Q : List D → Sto → Prop} : WpE EX (dLc s g t e vs ρ S) Q = WpE EX (s ρ S) fun ds S1 => WpE EX (lcGo g t e (wipeE ρ vs) ds S1) Q := by unfold dLc; rw [wp_bind]
theorem wp_sl {e : Ev D} {lo hi : EvO} {Q : D → Sto → Prop} : WpE EX (dSl e lo hi ρ S) Q = WpE EX (e ρ S) fun d S1 => WpE EX (lo ρ S1) fun l S2 => WpE EX (hi ρ S2) fun u S3 => WpE EX (fCut d l u S3) Q := by
  unfold dSl; rw [wp_bind]; congr 1; funext d S1; rw [wp_bind]; congr 1; funext l S2; rw [wp_bind]
theorem wp_oN {Q : Option Int → Sto → Prop} : WpE EX (oNone ρ S) Q = Q none S := rfl
def oI (d : D) (S : Sto) (Q : Option Int → Sto → Prop) : Prop := match d with
  | .int i => Q (some i) S
  | _ => False
theorem wp_oS {e : Ev D} {Q : Option Int → Sto → Prop} : WpE EX (oSome e ρ S) Q = WpE EX (e ρ S) fun d S1 => oI d S1 Q := by
  unfold oSome; rw [wp_bind]; congr 1; funext d S1; cases d <;> rfl
theorem wp_oI {i : Int} {Q : Option Int → Sto → Prop} : oI (.int i) S Q = Q (some i) S := rfl
theorem wp_yes {Q : Bool → Sto → Prop} : WpE EX (dYes ρ S) Q = Q true S := rfl
theorem wp_runB {g : St'} {n : Nat} {ds : List D} {Q : D → Sto → Prop} : WpE EX (runB g n ds S) Q = WsE EX.s (g (startE n ds) S) (fun _ S => Q .non S) Q (fun _ _ => False) fun _ _ => False := by
  unfold runB endB
  cases g (startE n ds) S <;> rfl
/-! ### loops -/
theorem for_inv {g : Tg} {b : St'} {ds : List D} (I : Nat → DEnv → Sto → Prop) (h0 : I 0 ρ S)
    (hs : ∀ (i : Nat) d ρ S, ds[i]? = some d → I i ρ S → toN (g d ρ) S fun ρ1 S1 => WsE ES (b ρ1 S1) (I (i + 1)) R (fun ρ S => N ρ S) (I (i + 1))) (hn : ∀ ρ S, I ds.length ρ S → N ρ S) : WsE ES (forGo g b ds ρ S) N R B C := by
  have go : ∀ (es : List D) (i : Nat) ρ S, i ≤ ds.length → ds.drop i = es → I i ρ S → WsE ES (forGo g b es ρ S) N R B C := by
    intro es
    induction es with
    | nil =>
      intro i ρ S hi e h
      have hl : ds.length ≤ i := by simpa using e
      have hi : i = ds.length := Nat.le_antisymm hi hl
      subst hi; exact hn _ _ h
    | cons d es ih =>
      intro i ρ S hi e h
      have hd : ds[i]? = some d := by
        have z := congrArg (fun l => l[0]?) e
        simpa using z
      have z := hs i d ρ S hd h
      unfold forGo
      cases eg : g d ρ with
      | none => rw [eg] at z; exact z.elim
      | some ρ1 =>
        rw [eg] at z
        have z' : WsE ES (b ρ1 S) (I (i + 1)) R (fun ρ S => N ρ S) (I (i + 1)) := z
        have e2 : ds.drop (i + 1) = es := by rw [← List.drop_drop, e]; rfl
        have i2 : i + 1 ≤ ds.length := (List.getElem?_eq_some_iff.mp hd).1
        dsimp only
        cases eb : b ρ1 S with
        | nx ρ2 S2 => rw [eb] at z'; exact ih (i + 1) ρ2 S2 i2 e2 z'
        | ct ρ2 S2 => rw [eb] at z'; exact ih (i + 1) ρ2 S2 i2 e2 z'
        | bk ρ2 S2 => rw [eb] at z'; exact z'
        | rt d2 S2 => rw [eb] at z'; exact z'
        | exc _ _ _ => rw [eb] at z'; exact z'
        | bad => rw [eb] at z'; exact z'.elim
  exact go ds 0 ρ S (Nat.zero_le _) rfl h0
/-- a comprehension by what holds of the list made so far -/
theorem lc_inv {g : Tg} {t : Ev Bool} {e : Ev D} {ds : List D} {Q : List D → Sto → Prop} (I : Nat → List D → Sto → Prop) (h0 : I 0 [] S)
    (hs : ∀ (i : Nat) d acc S, ds[i]? = some d → I i acc S → toN (g d ρ) S fun ρ1 S => WpE noX (t ρ1 S) fun k S1 => if k = true then WpE noX (e ρ1 S1) fun y S2 => I (i + 1) (acc ++ [y]) S2 else I (i + 1) acc S1) (hn : ∀ ys S, I ds.length ys S → Q ys S) : WpE EX (lcGo g t e ρ ds S) Q := by
  have go : ∀ (es : List D) (i : Nat) acc S, i ≤ ds.length → ds.drop i = es → I i acc S → WpE EX (lcGo g t e ρ es S) fun ys S1 => Q (acc ++ ys) S1 := by
    intro es
    induction es with
    | nil =>
      intro i acc S hi e h
      have hl : ds.length ≤ i := by simpa using e
      have hi : i = ds.length := Nat.le_antisymm hi hl
      subst hi
      show Q (acc ++ []) S
      rw [List.append_nil]; exact hn _ _ h
    | cons d es ih =>
      intro i acc S hi ee h
      have hd : ds[i]? = some d := by
        have z := congrArg (fun l => l[0]?) ee
        simpa using z
      have e2 : ds.drop (i + 1) = es := by rw [← List.drop_drop, ee]; rfl
      have i2 : i + 1 ≤ ds.length := (List.getElem?_eq_some_iff.mp hd).1
      have z := hs i d acc S hd h
      rw [lcGo_cons]
      cases eg : g d ρ with
      | none => rw [eg] at z; exact z.elim
      | some ρ1 =>
        rw [eg] at z
        dsimp only
        rw [wp_bind, wp_nox]
        refine Wp.imp (show WpE noX (t ρ1 S) _ from z) fun k S1 hk => ?_
        by_cases hk1 : k = true
        · rw [if_pos hk1] at hk ⊢
          rw [wp_bind, wp_nox]
          refine Wp.imp hk fun y S2 hy => ?_
          rw [wp_bind]
          refine WpE.mp (ih (i + 1) (acc ++ [y]) S2 i2 e2 hy) fun ys S3 h3 => ?_
          show Q (acc ++ y :: ys) S3
          rw [List.append_assoc] at h3
          exact h3
        · rw [if_neg hk1] at hk ⊢
          exact ih (i + 1) acc S1 i2 e2 hk
  have z := go ds 0 [] S (Nat.zero_le _) rfl h0
  simpa using z
/-- a comprehension that changes nothing: filter and map -/
theorem lc_map {α : Type} {g : Tg} {t : Ev Bool} {e : Ev D} {Q : List D → Sto → Prop} (enc : α → D) (p : α → Bool) (f : α → D) (xs : List α)
    (h : ∀ x ∈ xs, toN (g (enc x) ρ) S fun ρ1 _ => WpE noX (t ρ1 S) fun k S1 => k = p x ∧ S1 = S ∧ (p x = true → WpE noX (e ρ1 S) fun y S2 => y = f x ∧ S2 = S)) (q : Q ((xs.filter p).map f) S) : WpE EX (lcGo g t e ρ (xs.map enc) S) Q := by
  have go : lcGo g t e ρ (xs.map enc) S = .ok ((xs.filter p).map f) S := by
    clear q
    induction xs with
    | nil => rfl
    | cons x xs ih =>
      have h1 := h x (List.mem_cons_self ..)
      have h2 := ih fun y hy => h y (List.mem_cons_of_mem _ hy)
      rw [List.map_cons, lcGo_cons]
      cases eg : g (enc x) ρ with
      | none => rw [eg] at h1; exact h1.elim
      | some ρ1 =>
        rw [eg] at h1
        obtain ⟨k, S1, et, rfl, rfl, he⟩ := Wp.ex (show WpE noX (t ρ1 S) _ from h1)
        dsimp only
        rw [et]
        dsimp only [Res.nox, Res.bind]
        by_cases hp : p x = true
        · obtain ⟨y, S2, ee, rfl, rfl⟩ := Wp.ex (he hp)
          rw [if_pos hp, ee]
          dsimp only [Res.nox, Res.bind]
          rw [h2, List.filter_cons_of_pos hp]; rfl
        · rw [if_neg hp, h2, List.filter_cons_of_neg hp]
  rw [go]; exact q
end
/-! ### ints and lists by value -/
section
variable {EX : XP} {ES : XPs}
variable {S : Sto} {i j : Int} {xs ys : List D}
theorem fAdd_int : fAdd (.int i) (.int j) S = .ok (.int (i + j)) S := rfl
theorem fSub_int : fSub (.int i) (.int j) S = .ok (.int (i - j)) S := rfl
theorem fAdd_lst : fAdd (.lst xs) (.lst ys) S = if xs.length + ys.length ≤ sizeLine then .ok (.lst (xs ++ ys)) S else .bad := rfl
theorem joinT_tup : joinT (.tup xs) (.tup ys) xs ys = .tup (xs ++ ys) := by
  cases xs with
  | nil => rfl
  | cons a b => cases ys with
    | nil => rw [List.append_nil]; rfl
    | cons c d => rfl
theorem fAdd_tup : fAdd (.tup xs) (.tup ys) S = if xs.length + ys.length ≤ sizeLine then .ok (.tup (xs ++ ys)) S else .bad := by
  show (if xs.length + ys.length ≤ sizeLine then Res.ok (joinT (.tup xs) (.tup ys) xs ys) S else Res.bad) = _
  rw [joinT_tup]
theorem fAdd_zz : fAdd (.tupZ xs) (.tupZ ys) S = if xs.length + ys.length ≤ sizeLine then .ok (joinT (.tupZ xs) (.tupZ ys) xs ys) S else .bad := rfl
theorem fLt_int : fLt (.int i) (.int j) S = .ok (decide (i < j)) S := rfl
theorem fLe_int : fLe (.int i) (.int j) S = .ok (decide (i ≤ j)) S := rfl
theorem fGt_int : fGt (.int i) (.int j) S = .ok (decide (j < i)) S := rfl
theorem fGe_int : fGe (.int i) (.int j) S = .ok (decide (j ≤ i)) S := rfl
theorem fNeg_int : fNeg (.int i) S = .ok (.int (-i)) S := rfl
theorem fMod_int : fMod (.int i) (.int j) S = if 0 < j then .ok (.int (i % j)) S else .bad := rfl
theorem fDiv_int : fDiv (.int i) (.int j) S = if 0 < j ∧ j < 1073741824 then .ok (.int (i / j)) S else .bad := rfl
theorem fPow_int : fPow (.int i) (.int j) S = if 0 ≤ j ∧ j ≤ 1000000 ∧ i.natAbs < 2 ^ 64 then .ok (.int (i ^ j.toNat)) S else .bad := rfl
theorem fMul_int : fMul (.int i) (.int j) S = if (-(2 ^ 64) < i ∧ i < 2 ^ 64) ∨ (-(2 ^ 64) < j ∧ j < 2 ^ 64) then .ok (.int (i * j)) S else .bad := rfl
theorem fIx_lst : fIx (.lst xs) (.int i) S = match atI xs i with | some d => .ok d S | none => .bad := rfl
theorem fIx_tup : fIx (.tup xs) (.int i) S = match atI xs i with | some d => .ok d S | none => .bad := rfl
theorem fIx_loc {n : Nat} (h : S[n]? = some (.lst xs)) : fIx (.loc n) (.int i) S = match atI xs i with | some d => .ok d S | none => .bad := by
  show (match seqD S (.loc n) with | some (_, xs) => _ | none => _) = _
  simp only [seqD_loc, h]
  all_goals (cases atI xs i <;> rfl)
theorem atI_at {α : Type} {l : List α} {i : Int} (h0 : 0 ≤ i) (h1 : i < l.length) : ∃ d, atI l i = some d ∧ d ∈ l ∧ l[i.toNat]? = some d := by
  have hi : i.toNat < l.length := by omega
  refine ⟨l[i.toNat], ?_, List.getElem_mem hi, by simp [hi]⟩
  unfold atI ixN
  rw [if_pos h0, if_pos h1]
  simp [hi]
theorem fLen_lst : fLen [.lst xs] S = .ok (.int (xs.length : Nat)) S := rfl
theorem fLen_tup : fLen [.tup xs] S = .ok (.int (xs.length : Nat)) S := rfl
theorem fLen_str {s : Str} : fLen [.str s] S = .ok (.int (s.length : Nat)) S := rfl
theorem fLen_loc {n : Nat} (h : S[n]? = some (.lst xs)) : fLen [.loc n] S = .ok (.int (xs.length : Nat)) S := by
  show (match seqD S (.loc n) with | some (_, xs) => _ | none => _) = _
  rw [seqD_loc, h]
theorem fTuple_lst : fTuple [.lst xs] S = .ok (.tup xs) S := rfl
theorem fTuple_tup : fTuple [.tup xs] S = .ok (.tup xs) S := rfl
theorem fTuple_loc {n : Nat} (h : S[n]? = some (.lst xs)) : fTuple [.loc n] S = .ok (.tup xs) S := by
  unfold fTuple
  simp only [seqD_loc, h]
theorem fList_lst : fList [.lst xs] S = .ok xs S := rfl
theorem fList_tup : fList [.tup xs] S = .ok xs S := rfl
theorem fInt_int : fInt [.int i] S = .ok (.int i) S := rfl
theorem fInt_bl {k : Bool} : fInt [.bl k] S = .ok (.int (if k then 1 else 0)) S := rfl
theorem fAbs_int : fAbs [.int i] S = .ok (.int (if i < 0 then -i else i)) S := rfl
theorem fMax2_int : fMax2 [.int i, .int j] S = .ok (.int (if j > i then j else i)) S := rfl
theorem fMin2_int : fMin2 [.int i, .int j] S = .ok (.int (if j < i then j else i)) S := rfl
theorem fCut_scr {l u : Option Int} : fCut (.scr xs) l u S = .ok (.lst (cutD xs l u)) S := rfl
theorem fCut_lst {l u : Option Int} : fCut (.lst xs) l u S = .ok (.lst (cutD xs l u)) S := rfl
theorem fCut_tup {l u : Option Int} : fCut (.tup xs) l u S = .ok (.tup (cutD xs l u)) S := by
  show Res.ok (cutT (.tup xs) xs l u) S = _
  unfold cutT
  by_cases h : HT.sIx xs.length 0 l = 0 ∧ HT.sIx xs.length xs.length u = xs.length
  · rw [if_pos h, sIx_whole rfl h]
  · rw [if_neg h]
theorem fCut_tupZ {l u : Option Int} : fCut (.tupZ xs) l u S = .ok (cutT (.tupZ xs) xs l u) S := rfl
theorem fLen_tupZ : fLen [.tupZ xs] S = .ok (.int (xs.length : Nat)) S := rfl
theorem fIx_tupZ : fIx (.tupZ xs) (.int i) S = match atI xs i with | some d => .ok d S | none => .bad := rfl
theorem fTuple_tupZ : fTuple [.tupZ xs] S = .ok (.tupZ xs) S := rfl
theorem cut_map {α : Type} {f : α → D} (zs : List α) (l u : Option Int) : ∃ a b, cutD (zs.map f) l u = ((zs.drop a).take b).map f := by
  unfold cutD
  exact ⟨_, _, by rw [← List.map_drop, ← List.map_take]⟩
/-- one of some items -/
theorem wp_pick {Q : D → Sto → Prop} (P : D → Prop) (h0 : 0 ≤ i) (h1 : i < xs.length) (hp : ∀ d ∈ xs, P d) (q : ∀ d, P d → Q d S) : WpE EX (fIx (.lst xs) (.int i) S) Q := by
  obtain ⟨d, e, m, _⟩ := atI_at h0 h1
  rw [fIx_lst, e]
  exact q d (hp d m)
theorem seqI_lst : seqI (.lst xs) S = .ok xs S := rfl
theorem seqI_tup : seqI (.tup xs) S = .ok xs S := rfl
theorem seqI_scr : seqI (.scr xs) S = .ok xs S := rfl
theorem fRange1 : fRange [.int j] S = if j ≤ 16777216 ∧ -(2 ^ 62) ≤ j then .ok (rngI 0 j.toNat) S else .bad := rfl
theorem wp_range1 {Q : List D → Sto → Prop} (h : j ≤ 16777216) (h2 : 0 ≤ j) (q : Q (rngI 0 j.toNat) S) : WpE EX (fRange [.int j] S) Q := by
  rw [fRange1, if_pos ⟨h, by omega⟩]; exact q
theorem wp_var {i : Nat} {ρ : DEnv} {d : D} {Q : D → Sto → Prop} (e : ρ[i]? = some (some d)) (h : Q d S) : WpE EX (dVar i ρ S) Q := by
  unfold dVar; rw [e]; exact h
theorem wp_val_ok {α : Type} {r : Res α} {a : α} {Q : α → Sto → Prop} (e : r = .ok a S) (h : Q a S) : WpE EX r Q := by rw [e]; exact h
theorem toN_ok {o : Option DEnv} {ρ : DEnv} {N : DEnv → Sto → Prop} (e : o = some ρ) (h : N ρ S) : toN o S N := by rw [e]; exact h
theorem wp_ix_loc {n : Nat} {d : D} {Q : D → Sto → Prop} (e : S[n]? = some (.lst xs)) (e2 : atI xs i = some d) (h : Q d S) : WpE EX (fIx (.loc n) (.int i) S) Q := by
  rw [fIx_loc e, e2]; exact h
theorem wp_ix_lst {d : D} {Q : D → Sto → Prop} (e2 : atI xs i = some d) (h : Q d S) : WpE EX (fIx (.lst xs) (.int i) S) Q := by
  rw [fIx_lst, e2]; exact h
theorem wp_ix_tup {d : D} {Q : D → Sto → Prop} (e2 : atI xs i = some d) (h : Q d S) : WpE EX (fIx (.tup xs) (.int i) S) Q := by
  rw [fIx_tup, e2]; exact h
theorem wp_len_loc {n : Nat} {Q : D → Sto → Prop} (e : S[n]? = some (.lst xs)) (h : Q (.int (xs.length : Nat)) S) : WpE EX (fLen [.loc n] S) Q := by
  rw [fLen_loc e]; exact h
theorem wp_mod {Q : D → Sto → Prop} (h : 0 < j) (q : Q (.int (i % j)) S) : WpE EX (fMod (.int i) (.int j) S) Q := by rw [fMod_int, if_pos h]; exact q
theorem wp_div {Q : D → Sto → Prop} (h : 0 < j) (h2 : j < 1073741824) (q : Q (.int (i / j)) S) : WpE EX (fDiv (.int i) (.int j) S) Q := by rw [fDiv_int, if_pos ⟨h, h2⟩]; exact q
theorem wp_pow {Q : D → Sto → Prop} (h : 0 ≤ j) (h2 : j ≤ 1000000) (h3 : i.natAbs < 2 ^ 64) (q : Q (.int (i ^ j.toNat)) S) : WpE EX (fPow (.int i) (.int j) S) Q := by rw [fPow_int, if_pos ⟨h, h2, h3⟩]; exact q
theorem wp_mulL {Q : D → Sto → Prop} (h : -(2 ^ 64) < i) (h2 : i < 2 ^ 64) (q : Q (.int (i * j)) S) : WpE EX (fMul (.int i) (.int j) S) Q := by rw [fMul_int, if_pos (Or.inl ⟨h, h2⟩)]; exact q
theorem set_ok {n : Nat} {k : Int} {j : Nat} {d : D} {N : Sto → Prop} (e : S[n]? = some (.lst xs)) (e2 : ixN xs.length k = some j) (h : N (S.set n (.lst (xs.set j d)))) : ∃ S4, setD (.loc n) (.int k) d S = some S4 ∧ N S4 := by
  refine ⟨_, ?_, h⟩
  unfold setD
  simp only [e, e2]
theorem ite_t {c A B : Prop} [Decidable c] (h : c) (a : A) : if c then A else B := by rw [if_pos h]; exact a
theorem ite_f {c A B : Prop} [Decidable c] (h : ¬c) (b : B) : if c then A else B := by rw [if_neg h]; exact b
theorem ite_c {c A B : Prop} [Decidable c] (a : c → A) (b : ¬c → B) : if c then A else B := by
  by_cases h : c
  · rw [if_pos h]; exact a h
  · rw [if_neg h]; exact b h
theorem wp_ite {α : Type} {c : Prop} [Decidable c] {a b : Res α} {Q : α → Sto → Prop} : WpE EX (if c then a else b) Q = if c then WpE EX a Q else WpE EX b Q := by split <;> rfl
theorem wp_guard {α : Type} {c : Prop} [Decidable c] {a : Res α} {Q : α → Sto → Prop} (h : c) (q : WpE EX a Q) : WpE EX (if c then a else .bad) Q := by rw [if_pos h]; exact q
end
end DL

/-! DL: data of ints: its text fits, its ==. -/
namespace DL
open PySem PySem.Spec PyProof.Rows L2
variable {EX : XP} {ES : XPs}
/-- small data: text and == are defined -/
structure Sm (d : D) (n : Nat) : Prop where
  isD : d.isD = true
  sh : d.py.showable = true
  lv : d.py.leavesShort 13 = true
  wt : d.py.weight ≤ n
  dp : d.py.depth ≤ 20
  cl : d.py.canLay0 = true
structure SmL (ds : List D) (n : Nat) : Prop where
  isD : D.isL ds = true
  sh : PyData.showableAll (D.pyL ds) = true
  lv : PyData.leavesShortAll 13 (D.pyL ds) = true
  wt : PyData.weightAll (D.pyL ds) ≤ n
  dp : PyData.depthAll (D.pyL ds) ≤ 19
  cl : PyData.canLayAll0 (D.pyL ds) = true
theorem log_small {i : Int} (h : i.natAbs < 2 ^ 40) : i.natAbs.log2 ≤ 39 := by
  by_cases z : i.natAbs = 0
  · rw [z]; decide
  · exact Nat.le_of_lt_succ ((Nat.log2_lt z).mpr h)
theorem sm_int {i : Int} (h : i.natAbs < 10 ^ 12) : Sm (.int i) 40 := by
  have h2 := log_small (i := i) (Nat.lt_of_lt_of_le h (by decide))
  refine ⟨rfl, ?_, ?_, ?_, ?_, rfl⟩
  · simp only [D.py, PyData.showable, decide_eq_true_eq]; omega
  · simp only [D.py, PyData.leavesShort, decide_eq_true_eq]; exact PyData.shown_int_le h
  · simp only [D.py, PyData.weight]
    split <;> omega
  · simp only [D.py, PyData.depth]; omega
theorem sm_bl (b : Bool) : Sm (.bl b) 0 := ⟨rfl, by simp only [D.py, PyData.showable], by cases b <;> decide +kernel, by simp [D.py, PyData.weight], by simp [D.py, PyData.depth], by simp [D.py, PyData.canLay0]⟩
theorem sm_non : Sm .non 0 := ⟨rfl, by simp only [D.py, PyData.showable], by decide +kernel, by simp [D.py, PyData.weight], by simp [D.py, PyData.depth], by simp [D.py, PyData.canLay0]⟩
theorem sml_nil : SmL [] 0 := ⟨rfl, by simp [D.pyL, PyData.showableAll], by simp [D.pyL, PyData.leavesShortAll], by simp [D.pyL, PyData.weightAll], by simp [D.pyL, PyData.depthAll], by simp [D.pyL, PyData.canLayAll0]⟩
theorem sml_cons {d : D} {ds : List D} {n k : Nat} (h : Sm d n) (h1 : d.py.depth ≤ 19) (r : SmL ds k) : SmL (d :: ds) (n + k + 2) := by
  refine ⟨?_, ?_, ?_, ?_, ?_, ?_⟩
  · simp [D.isL, h.isD, r.isD]
  · simp [D.pyL, PyData.showableAll, h.sh, r.sh]
  · simp [D.pyL, PyData.leavesShortAll, h.lv, r.lv]
  · simp only [D.pyL, PyData.weightAll]; have := h.wt; have := r.wt; omega
  · simp only [D.pyL, PyData.depthAll]; have := r.dp; omega
  · simp [D.pyL, PyData.canLayAll0, h.cl, r.cl]
theorem sm_tup {ds : List D} {n : Nat} (r : SmL ds n) : Sm (.tup ds) (n + 2) := by
  refine ⟨by simp [D.isD, r.isD], by simp [D.py, PyData.showable, r.sh], by simp [D.py, PyData.leavesShort, r.lv], ?_, ?_, by simp [D.py, PyData.canLay0, r.cl]⟩
  · simp only [D.py, PyData.weight]; have := r.wt; omega
  · simp only [D.py, PyData.depth]; have := r.dp; omega
theorem sm_lst {ds : List D} {n : Nat} (r : SmL ds n) : Sm (.lst ds) (n + 2) := by
  refine ⟨by simp [D.isD, r.isD], by simp [D.py, PyData.showable, r.sh], by simp [D.py, PyData.leavesShort, r.lv], ?_, ?_, by simp [D.py, PyData.canLay0, r.cl]⟩
  · simp only [D.py, PyData.weight]; have := r.wt; omega
  · simp only [D.py, PyData.depth]; have := r.dp; omega
theorem sml_ints : ∀ {ns : List Int}, (∀ n ∈ ns, n.natAbs < 10 ^ 12) → SmL (ns.map .int) (42 * ns.length) ∧ PyData.depthAll (D.pyL (ns.map .int)) = 0
  | [], _ => ⟨sml_nil, rfl⟩
  | n :: ns, h => by
    obtain ⟨r, e⟩ := sml_ints (ns := ns) fun x hx => h x (List.mem_cons_of_mem _ hx)
    have s := sm_int (h n (List.mem_cons_self ..))
    have z := sml_cons s (by simp [D.py, PyData.depth]) r
    refine ⟨?_, ?_⟩
    · have e2 : 40 + 42 * ns.length + 2 = 42 * (n :: ns).length := by simp; omega
      rw [← e2]; exact z
    · show max _ (PyData.depthAll (D.pyL (ns.map .int))) = 0
      rw [e]; rfl
theorem Sm.mono {d : D} {n k : Nat} (h : Sm d n) (z : n ≤ k) : Sm d k := ⟨h.isD, h.sh, h.lv, Nat.le_trans h.wt z, h.dp, h.cl⟩
theorem SmL.mono {d : List D} {n k : Nat} (h : SmL d n) (z : n ≤ k) : SmL d k := ⟨h.isD, h.sh, h.lv, Nat.le_trans h.wt z, h.dp, h.cl⟩
theorem data_isD {S : Sto} {d : D} (h : d.isD = true) : dataOf S d = some d := by
  cases d with
  | loc n => cases h
  | _ => unfold dataOf; dsimp only; rw [if_pos h]
/-- the text of small data -/
theorem wp_repr {S : Sto} {d : D} {n : Nat} {Q : D → Sto → Prop} (h : Sm d n) (hn : n ≤ 2 ^ 20) (q : Q (.str d.py.shown) S) : WpE EX (fRepr [d] S) Q := by
  unfold fRepr
  dsimp only
  rw [data_isD h.isD]
  dsimp only
  rw [if_pos ⟨h.sh, PyData.shown_fits (by decide) (by decide) h.lv (Nat.le_trans h.wt hn), Nat.le_trans h.dp (by decide)⟩]
  exact q
theorem fEq_str {S : Sto} {a b : Str} : fEq (.str a) (.str b) S = .ok (decide (a = b)) S := rfl
theorem fNe_str {S : Sto} {a b : Str} : fNe (.str a) (.str b) S = .ok (!decide (a = b)) S := rfl
theorem fEq_int {S : Sto} {i j : Int} : fEq (.int i) (.int j) S = .ok (i == j) S := by
  unfold fEq
  rw [data_isD (show D.isD (.int i) = true from rfl), data_isD (show D.isD (.int j) = true from rfl)]
  dsimp only
  unfold eqB
  rw [if_pos ⟨by simp [SeqAt.shaped, D.py, PyData.canLay0, PyData.depth], by simp [SeqAt.shaped, D.py, PyData.canLay0, PyData.depth]⟩]
  simp [D.py, PyData.eqv]
theorem fNe_int {S : Sto} {i j : Int} : fNe (.int i) (.int j) S = .ok (!(i == j)) S := by
  unfold fNe; rw [fEq_int]; rfl
/-- == of small data -/
def notStr : D → Bool
  | .str _ => false
  | _ => true
theorem fEq_sm {S : Sto} {d e : D} {n k : Nat} (h : Sm d n) (h2 : Sm e k) (hs : notStr d = true) : fEq d e S = .ok (PyData.eqv d.py e.py) S := by
  unfold fEq
  rw [data_isD h.isD, data_isD h2.isD]
  have s1 : SeqAt.shaped d.py = true := by
    unfold SeqAt.shaped; rw [h.cl]; have := h.dp; simp; omega
  have s2 : SeqAt.shaped e.py = true := by
    unfold SeqAt.shaped; rw [h2.cl]; have := h2.dp; simp; omega
  cases d with
  | str s => cases hs
  | _ => dsimp only; unfold eqB; rw [if_pos ⟨s1, s2⟩]
theorem fNe_sm {S : Sto} {d e : D} {n k : Nat} (h : Sm d n) (h2 : Sm e k) (hs : notStr d = true) : fNe d e S = .ok (!PyData.eqv d.py e.py) S := by
  unfold fNe
  rw [fEq_sm h h2 hs]; rfl
mutual
theorem eqv_refl : ∀ {d : D}, d.isD = true → PyData.eqv d.py d.py = true
  | .non, _ => by simp [D.py, PyData.eqv]
  | .bl _, _ => by simp [D.py, PyData.eqv]
  | .int _, _ => by simp [D.py, PyData.eqv]
  | .str _, _ => by simp [D.py, PyData.eqv]
  | .tup xs, h => by simp only [D.py, PyData.eqv]; exact eqvL_refl (by simpa [D.isD] using h)
  | .tupZ xs, h => by simp only [D.py, PyData.eqv]; exact eqvL_refl (by simpa [D.isD] using h)
  | .dicS _, h => by cases h
  | .lst xs, h => by simp only [D.py, PyData.eqv]; exact eqvL_refl (by simpa [D.isD] using h)
  | .scr _, h => by cases h
  | .dic0, h => by cases h
  | .loc _, h => by cases h
  | .adr _, h => by cases h
  | .ty _, h => by cases h
theorem eqvL_refl : ∀ {ds : List D}, D.isL ds = true → PyData.eqvAll (D.pyL ds) (D.pyL ds) = true
  | [], _ => by simp [D.pyL, PyData.eqvAll]
  | d :: ds, h => by
    simp [D.isL] at h
    simp [D.pyL, PyData.eqvAll, eqv_refl h.1, eqvL_refl h.2]
end
end DL

/-! DL: methods of lists, list(range(..)), sorted, sum, max, min, in. -/
namespace DL
open PySem PySem.Spec PyProof.Rows L2
def isLs (S : Sto) (x : D) : Bool := match seqD S x with
  | some (.lst, _) => true
  | some (.scr, _) => true
  | _ => false
theorem isLs_ty {K : PySem.W.Frag} {H F : Hp} {S : Sto} {m : List Addr} {d : D} {v : V} (h : HSt K H S F m) (r : Rep K F m d v) (e : isLs S d = true) : tyV K "list" v H := by
  unfold isLs at e
  split at e
  · rename_i xs e1
    obtain ⟨a, vs, rfl, h1, _⟩ := seq_lst h r e1
    exact .inl ⟨rfl, vs, .inl (.inl h1)⟩
  · rename_i xs e1
    obtain ⟨a, vs, rfl, h1, _⟩ := seq_scr h r e1
    exact .inl ⟨rfl, vs, h1⟩
  · cases e
abbrev RM := V → List V → Hp → VK → Prop
def RMK (X : Cx) (r : RM) (f : D → List D → Sto → Res D) : Prop := ∀ H S F m x xs d ds (Q : VK) E, HSt X.K H S F m → Rep X.K F m d x → RepL X.K F m ds xs → Post (Rep X.K) X.mg X.K H F m (f d ds S) Q E → r x xs H Q
def dMl (f : D → List D → Sto → Res D) (go : Ev D) (gs : Ev (List D)) : Ev D := fun ρ S => (go ρ S).bind fun x S1 => if isLs S1 x = true then (gs ρ S1).bind fun ds S2 => f x ds S2 else .bad
def dMl0 (f : D → List D → Sto → Res D) (go : Ev D) : Ev D := fun ρ S => (go ρ S).bind fun x S1 => if isLs S1 x = true then f x [] S1 else .bad
def isSt : D → Bool
  | .str _ => true
  | _ => false
theorem isSt_ty {K : PySem.W.Frag} {H F : Hp} {m : List Addr} {d : D} {v : V} (r : Rep K F m d v) (e : isSt d = true) : tyV K "str" v H := by
  cases r with
  | str s _ => rfl
  | _ => cases e
def dMs (f : D → List D → Sto → Res D) (go : Ev D) (gs : Ev (List D)) : Ev D := fun ρ S => (go ρ S).bind fun x S1 => if isSt x = true then (gs ρ S1).bind fun ds S2 => f x ds S2 else .bad
def dMs0 (f : D → List D → Sto → Res D) (go : Ev D) : Ev D := fun ρ S => (go ρ S).bind fun x S1 => if isSt x = true then f x [] S1 else .bad
section
variable {X : Cx} {o e : Expr} {es : List Expr} {name : Str} {apos cpos p pos : Pos} {r : RM} {f : D → List D → Sto → Res D} {go : Ev D} {gs : Ev (List D)}
theorem de_ml (hf : RMK X r f) (ho : DE X o go) (ha : DA X (e :: es) gs) (hpe : ∀ {to : TE} {t : TA}, PE X o to → PA X (e :: es) t → PE X (.Call (.Attribute o name apos) (e :: es) [] cpos) (tBM X.K "list" r to t)) : DE X (.Call (.Attribute o name apos) (e :: es) [] cpos) (dMl f go gs) := by
  refine ⟨fun W tk => ?_⟩
  obtain ⟨to, po, ro⟩ := ho.ex W tk
  obtain ⟨ta, pa, ra⟩ := ha.ex W tk
  refine ⟨_, hpe po pa, fun σ H ρ S F m Q sl h q => ?_⟩
  refine ro σ H ρ S F m _ sl h (Post.bind q fun x S1 v H1 F1 m1 h1 x1 r1 p1 => ?_)
  by_cases hl : isLs S1 x = true
  · rw [if_pos hl] at p1
    refine ⟨isLs_ty h1 r1 hl, ra σ H1 ρ S1 F1 m1 _ (sl.le x1.le) h1 (Post.bind p1 fun ds S2 vs H2 F2 m2 h2 x2 r2 p2 => ?_)⟩
    exact hf H2 S2 F2 m2 v vs x ds Q _ h2 (r1.le x2.le) r2 p2
  · rw [if_neg hl] at p1; exact p1.elim
theorem de_ml0 (hf : RMK X r f) (ho : DE X o go) (hpe : ∀ {to : TE}, PE X o to → PE X (.Call (.Attribute o name apos) [] [] cpos) (tBM0 X.K "list" r to)) : DE X (.Call (.Attribute o name apos) [] [] cpos) (dMl0 f go) := by
  refine ⟨fun W tk => ?_⟩
  obtain ⟨to, po, ro⟩ := ho.ex W tk
  refine ⟨_, hpe po, fun σ H ρ S F m Q sl h q => ?_⟩
  refine ro σ H ρ S F m _ sl h (Post.bind q fun x S1 v H1 F1 m1 h1 x1 r1 p1 => ?_)
  by_cases hl : isLs S1 x = true
  · rw [if_pos hl] at p1
    exact ⟨isLs_ty h1 r1 hl, hf H1 S1 F1 m1 v [] x [] Q _ h1 r1 .nil p1⟩
  · rw [if_neg hl] at p1; exact p1.elim
theorem de_ms (hf : RMK X r f) (ho : DE X o go) (ha : DA X (e :: es) gs) (hpe : ∀ {to : TE} {t : TA}, PE X o to → PA X (e :: es) t → PE X (.Call (.Attribute o name apos) (e :: es) [] cpos) (tBM X.K "str" r to t)) : DE X (.Call (.Attribute o name apos) (e :: es) [] cpos) (dMs f go gs) := by
  refine ⟨fun W tk => ?_⟩
  obtain ⟨to, po, ro⟩ := ho.ex W tk
  obtain ⟨ta, pa, ra⟩ := ha.ex W tk
  refine ⟨_, hpe po pa, fun σ H ρ S F m Q sl h q => ?_⟩
  refine ro σ H ρ S F m _ sl h (Post.bind q fun x S1 v H1 F1 m1 h1 x1 r1 p1 => ?_)
  by_cases hl : isSt x = true
  · rw [if_pos hl] at p1
    refine ⟨isSt_ty r1 hl, ra σ H1 ρ S1 F1 m1 _ (sl.le x1.le) h1 (Post.bind p1 fun ds S2 vs H2 F2 m2 h2 x2 r2 p2 => ?_)⟩
    exact hf H2 S2 F2 m2 v vs x ds Q _ h2 (r1.le x2.le) r2 p2
  · rw [if_neg hl] at p1; exact p1.elim
theorem de_ms0 (hf : RMK X r f) (ho : DE X o go) (hpe : ∀ {to : TE}, PE X o to → PE X (.Call (.Attribute o name apos) [] [] cpos) (tBM0 X.K "str" r to)) : DE X (.Call (.Attribute o name apos) [] [] cpos) (dMs0 f go) := by
  refine ⟨fun W tk => ?_⟩
  obtain ⟨to, po, ro⟩ := ho.ex W tk
  refine ⟨_, hpe po, fun σ H ρ S F m Q sl h q => ?_⟩
  refine ro σ H ρ S F m _ sl h (Post.bind q fun x S1 v H1 F1 m1 h1 x1 r1 p1 => ?_)
  by_cases hl : isSt x = true
  · rw [if_pos hl] at p1
    exact ⟨isSt_ty r1 hl, hf H1 S1 F1 m1 v [] x [] Q _ h1 r1 .nil p1⟩
  · rw [if_neg hl] at p1; exact p1.elim
end
section
variable {K : PySem.W.Frag} {H F : Hp} {S : Sto} {m : List Addr}
theorem RepL.eraseIdx : ∀ (n : Nat) {ds : List D} {vs : List V}, RepL K F m ds vs → RepL K F m (ds.eraseIdx n) (vs.eraseIdx n)
  | _, _, _, .nil => .nil
  | 0, _, _, .cons _ b => b
  | n + 1, _, _, .cons a b => .cons a (RepL.eraseIdx n b)
theorem RepL.dropLast {ds : List D} {vs : List V} (h : RepL K F m ds vs) : RepL K F m ds.dropLast vs.dropLast := by
  rw [List.dropLast_eq_take, List.dropLast_eq_take, h.length]; exact h.take _
theorem RepL.reverse : ∀ {ds : List D} {vs : List V}, RepL K F m ds vs → RepL K F m ds.reverse vs.reverse
  | _, _, .nil => .nil
  | _, _, .cons a b => by
    rw [List.reverse_cons, List.reverse_cons]
    exact (RepL.reverse b).append (.cons a .nil)
def intsOf : List D → Option (List Int)
  | [] => some []
  | .int i :: r => (intsOf r).map (i :: ·)
  | _ => none
theorem ints_rep : ∀ {ds : List D} {vs : List V} {ns : List Int}, RepL K F m ds vs → intsOf ds = some ns → vs = ns.map .int ∧ ds = ns.map .int
  | [], _, ns, .nil, e => by cases e; exact ⟨rfl, rfl⟩
  | d :: ds, _, ns, .cons a b, e => by
    cases d with
    | int i =>
      unfold intsOf at e
      cases er : intsOf ds with
      | none => rw [er] at e; cases e
      | some ms =>
        rw [er] at e
        cases e
        obtain ⟨h1, h2⟩ := ints_rep b er
        cases a
        exact ⟨by rw [h1]; rfl, by rw [h2]; rfl⟩
    | _ => cases e
theorem ints_of : ∀ (ns : List Int), intsOf (ns.map .int) = some ns
  | [] => rfl
  | n :: ns => by
    show (intsOf (ns.map .int)).map (n :: ·) = _
    rw [ints_of ns]; rfl
theorem rep_ints : ∀ (ns : List Int), RepL K F m (ns.map .int) (ns.map .int)
  | [] => .nil
  | n :: ns => .cons (.int n) (rep_ints ns)
end
/-! ### a list of the store is changed -/
def stL (S : Sto) : D → Option (Nat × List D)
  | .loc n => match S[n]? with
    | some (.lst xs) => some (n, xs)
    | _ => none
  | _ => none
theorem stL_ok {K : PySem.W.Frag} {H F : Hp} {S : Sto} {m : List Addr} {d : D} {v : V} {n : Nat} {xs : List D} (h : HSt K H S F m) (r : Rep K F m d v) (e : stL S d = some (n, xs)) :
    ∃ a vs, v = .ref a ∧ m[n]? = some a ∧ S[n]? = some (.lst xs) ∧ H a = some (.lst vs) ∧ RepL K F m xs vs ∧ xs.length ≤ sizeLine ∧
      ∀ ys ws, ys.length ≤ sizeLine → RepL K F m ys ws → HSt K (upd H a (.lst ws)) (S.set n (.lst ys)) F m ∧ Ext H (upd H a (.lst ws)) F F m m := by
  cases r with
  | @loc k a l =>
    have e' : (match S[k]? with | some (.lst xs) => some (k, xs) | _ => none) = some (n, xs) := e
    cases es : S[k]? with
    | none => rw [es] at e'; cases e'
    | some o =>
      rw [es] at e'
      cases o with
      | lst zs =>
        cases e'
        obtain ⟨fa, ho, hH, vs, rfl, z, rv⟩ := h.sto _ _ _ l es (by intro z; cases z)
        exact ⟨a, vs, rfl, l, es, hH, rv, z, fun ys ws z2 r2 => h.write l es (by intro z; cases z) (o := .lst ys) (ho := .lst ws) ⟨_, rfl, z2, r2⟩⟩
      | _ => cases e'
  | _ => cases e
def fAppend (x : D) (ds : List D) (S : Sto) : Res D := match stL S x, ds with
  | some (n, xs), [d] => if xs.length < sizeLine then .ok .non (S.set n (.lst (xs ++ [d]))) else .bad
  | _, _ => .bad
def fExtend (x : D) (ds : List D) (S : Sto) : Res D := match stL S x, ds with
  | some (n, xs), [d] => match seqD S d with
    | some (.lst, ys) => if xs.length + ys.length ≤ sizeLine then .ok .non (S.set n (.lst (xs ++ ys))) else .bad
    | _ => .bad
  | _, _ => .bad
def fPop (x : D) (ds : List D) (S : Sto) : Res D := match stL S x, ds with
  | some (n, xs), [] => match xs[xs.length - 1]? with
    | some d => .ok d (S.set n (.lst xs.dropLast))
    | none => .bad
  | _, _ => .bad
def fPopAt (x : D) (ds : List D) (S : Sto) : Res D := match stL S x, ds with
  | some (n, xs), [.int i] => if -(2 ^ 63) ≤ i ∧ i < 2 ^ 63 then match ixN xs.length i with
    | some k => match xs[k]? with
      | some d => .ok d (S.set n (.lst (xs.eraseIdx k)))
      | none => .bad
    | none => .bad else .bad
  | _, _ => .bad
def fInsert (x : D) (ds : List D) (S : Sto) : Res D := match stL S x, ds with
  | some (n, xs), [.int i, d] => if xs.length < sizeLine ∧ 0 ≤ i ∧ i < 2 ^ 63 then .ok .non (S.set n (.lst (xs.take i.toNat ++ [d] ++ xs.drop i.toNat))) else .bad
  | _, _ => .bad
def fReverse (x : D) (ds : List D) (S : Sto) : Res D := match stL S x, ds with
  | some (n, xs), [] => .ok .non (S.set n (.lst xs.reverse))
  | _, _ => .bad
def fClear (x : D) (ds : List D) (S : Sto) : Res D := match stL S x, ds with
  | some (n, _), [] => .ok .non (S.set n (.lst []))
  | _, _ => .bad
/-- the first place of k -/
def placeI (k : Int) : List Int → Option Nat
  | [] => none
  | n :: ns => if n = k then some 0 else (placeI k ns).map (· + 1)
theorem place_at {k : Int} : ∀ {ns : List Int} {j : Nat}, placeI k ns = some j → ns[j]? = some k ∧ ∀ i, i < j → ns[i]? ≠ some k
  | [], _, e => by cases e
  | n :: ns, j, e => by
    unfold placeI at e
    split at e
    · rename_i h
      cases e
      subst h
      exact ⟨rfl, fun i hi => absurd hi (Nat.not_lt_zero _)⟩
    · rename_i h
      cases er : placeI k ns with
      | none => rw [er] at e; cases e
      | some i =>
        rw [er] at e
        cases e
        obtain ⟨h1, h2⟩ := place_at er
        refine ⟨by simpa using h1, fun q hq => ?_⟩
        cases q with
        | zero => simpa using h
        | succ q =>
          have hq' : q < i := Nat.lt_of_succ_lt_succ hq
          simpa using h2 q hq'
def fRemove (x : D) (ds : List D) (S : Sto) : Res D := match stL S x, ds with
  | some (n, xs), [.int k] => match intsOf xs with
    | some ns => match placeI k ns with
      | some j => .ok .non (S.set n (.lst ((ns.eraseIdx j).map .int)))
      | none => .bad
    | none => .bad
  | _, _ => .bad
section
variable {X : Cx}
theorem km_append : RMK X rAppend fAppend := by
  intro H S F m x xs d ds Q E h r rs p
  unfold fAppend at p
  split at p
  · rename_i n ys d' e
    obtain ⟨a, vs, rfl, l, es, hH, rv, z, w⟩ := stL_ok h r e
    cases rs with
    | cons a1 b1 =>
      cases b1
      split at p
      · rename_i hz
        obtain ⟨h2, x2⟩ := w (ys ++ [d']) (vs ++ [_]) (by simp; omega) (rv.append (.cons a1 .nil))
        exact ⟨_, vs, _, rfl, rfl, hH, by rw [← rv.length]; exact hz, p _ _ F m h2 x2 .non⟩
      · exact p.elim
  · exact p.elim
theorem km_extend : RMK X rExtend fExtend := by
  intro H S F m x xs d ds Q E h r rs p
  unfold fExtend at p
  split at p
  · rename_i n ys d' e
    obtain ⟨a, vs, rfl, l, es, hH, rv, z, w⟩ := stL_ok h r e
    cases rs with
    | cons a1 b1 =>
      cases b1
      split at p
      · rename_i zs e2
        obtain ⟨b, ws, rfl, hb, rw, z2⟩ := seq_lst h a1 e2
        split at p
        · rename_i hz
          obtain ⟨h2, x2⟩ := w (ys ++ zs) (vs ++ ws) (by rw [List.length_append]; exact hz) (rv.append rw)
          exact ⟨_, _, vs, ws, rfl, rfl, hH, hb, by rw [← rv.length, ← rw.length]; exact hz, p _ _ F m h2 x2 .non⟩
        · exact p.elim
      · exact p.elim
  · exact p.elim
theorem km_pop : RMK X rPop fPop := by
  intro H S F m x xs d ds Q E h r rs p
  unfold fPop at p
  split at p
  · rename_i n ys e
    obtain ⟨a, vs, rfl, l, es, hH, rv, z, w⟩ := stL_ok h r e
    cases rs
    split at p
    · rename_i d' e2
      obtain ⟨v, ev, r2⟩ := rv.get e2
      obtain ⟨h2, x2⟩ := w ys.dropLast vs.dropLast (by rw [List.length_dropLast]; omega) rv.dropLast
      exact ⟨_, vs, v, rfl, rfl, hH, by rw [← rv.length]; exact ev, p _ _ F m h2 x2 r2⟩
    · exact p.elim
  · exact p.elim
theorem km_popAt : RMK X rPopAt fPopAt := by
  intro H S F m x xs d ds Q E h r rs p
  unfold fPopAt at p
  split at p
  · rename_i n ys i e
    obtain ⟨a, vs, rfl, l, es, hH, rv, z, w⟩ := stL_ok h r e
    cases rs with
    | cons a1 b1 =>
      cases b1
      cases a1
      split at p
      · rename_i hi
        split at p
        · rename_i k ek
          split at p
          · rename_i d' e2
            obtain ⟨v, ev, r2⟩ := rv.get e2
            obtain ⟨h2, x2⟩ := w (ys.eraseIdx k) (vs.eraseIdx k) (Nat.le_trans (List.length_eraseIdx_le ..) z) (rv.eraseIdx k)
            exact ⟨_, vs, i, k, v, rfl, rfl, hH, hi.1, hi.2, by rw [← rv.length]; exact (ixN_seq ek).1, ev, p _ _ F m h2 x2 r2⟩
          · exact p.elim
        · exact p.elim
      · exact p.elim
  · exact p.elim
theorem km_insert : RMK X (fun x vs H Q => ∃ (l : Addr) (xs : List V) (i : Int) (y : V), x = .ref l ∧ vs = [.int i, y] ∧ H l = some (.lst xs) ∧ xs.length < sizeLine ∧ 0 ≤ i ∧ i < 2 ^ 63 ∧ Q .non (upd H l (.lst (xs.take i.toNat ++ [y] ++ xs.drop i.toNat)))) fInsert := by
  intro H S F m x xs d ds Q E h r rs p
  unfold fInsert at p
  split at p
  · rename_i n ys i d' e
    obtain ⟨a, vs, rfl, l, es, hH, rv, z, w⟩ := stL_ok h r e
    cases rs with
    | cons a1 b1 => cases b1 with
      | cons b1 c1 =>
        cases c1
        cases a1
        split at p
        · rename_i hi
          obtain ⟨h2, x2⟩ := w (ys.take i.toNat ++ [d'] ++ ys.drop i.toNat) (vs.take i.toNat ++ [_] ++ vs.drop i.toNat) (by simp; omega) (((rv.take _).append (.cons b1 .nil)).append (rv.drop _))
          exact ⟨_, vs, i, _, rfl, rfl, hH, by rw [← rv.length]; exact hi.1, hi.2.1, hi.2.2, p _ _ F m h2 x2 .non⟩
        · exact p.elim
  · exact p.elim
theorem km_reverse : RMK X rReverse fReverse := by
  intro H S F m x xs d ds Q E h r rs p
  unfold fReverse at p
  split at p
  · rename_i n ys e
    obtain ⟨a, vs, rfl, l, es, hH, rv, z, w⟩ := stL_ok h r e
    cases rs
    obtain ⟨h2, x2⟩ := w ys.reverse vs.reverse (by simpa using z) rv.reverse
    exact ⟨_, vs, rfl, rfl, hH, p _ _ F m h2 x2 .non⟩
  · exact p.elim
theorem km_clear : RMK X rClear fClear := by
  intro H S F m x xs d ds Q E h r rs p
  unfold fClear at p
  split at p
  · rename_i n ys e
    obtain ⟨a, vs, rfl, l, es, hH, rv, z, w⟩ := stL_ok h r e
    cases rs
    obtain ⟨h2, x2⟩ := w [] [] (Nat.zero_le _) .nil
    exact ⟨_, vs, rfl, rfl, hH, p _ _ F m h2 x2 .non⟩
  · exact p.elim
theorem km_remove : RMK X rRemI fRemove := by
  intro H S F m x xs d ds Q E h r rs p
  unfold fRemove at p
  split at p
  · rename_i n ys k e
    obtain ⟨a, vs, rfl, l, es, hH, rv, z, w⟩ := stL_ok h r e
    cases rs with
    | cons a1 b1 =>
      cases b1
      cases a1
      split at p
      · rename_i ns en
        obtain ⟨rfl, rfl⟩ := ints_rep rv en
        split at p
        · rename_i j ej
          obtain ⟨h3, h4⟩ := place_at ej
          obtain ⟨h2, x2⟩ := w ((ns.eraseIdx j).map .int) ((ns.eraseIdx j).map .int) (by rw [List.length_map] at z ⊢; exact Nat.le_trans (List.length_eraseIdx_le ..) z) (rep_ints _)
          exact ⟨_, ns, k, j, rfl, rfl, hH, h3, h4, p _ _ F m h2 x2 .non⟩
        · exact p.elim
      · exact p.elim
  · exact p.elim
def fCount (x : D) (ds : List D) (S : Sto) : Res D := match seqD S x, ds with
  | some (.lst, xs), [.int k] => match intsOf xs with
    | some ns => .ok (.int (ns.count k : Nat)) S
    | none => .bad
  | _, _ => .bad
theorem km_count : RMK X (rCntI X.K) fCount := by
  intro H S F m x xs d ds Q E h r rs p
  unfold fCount at p
  split at p
  · rename_i ys k e
    obtain ⟨a, vs, rfl, h1, rv, _⟩ := seq_lst h r e
    cases rs with
    | cons a1 b1 =>
      cases b1
      cases a1
      split at p
      · rename_i ns en
        obtain ⟨rfl, rfl⟩ := ints_rep rv en
        exact ⟨a, ns, k, rfl, rfl, .inl (.inl h1), p _ H F m h (Ext.refl _ _ _) (.int _)⟩
      · exact p.elim
  · exact p.elim
end
/-! ### sums, greatest, least, sorted: of lists of ints -/
def lintsOf (S : Sto) (d : D) : Option (List Int) := match seqD S d with
  | some (.lst, xs) => intsOf xs
  | _ => none
theorem lints_ok {K : PySem.W.Frag} {H F : Hp} {S : Sto} {m : List Addr} {d : D} {v : V} {ns : List Int} (h : HSt K H S F m) (r : Rep K F m d v) (e : lintsOf S d = some ns) : ∃ a, v = .ref a ∧ SqL K H a (ns.map .int) ∧ ns.length ≤ sizeLine := by
  unfold lintsOf at e
  split at e
  · rename_i xs e1
    obtain ⟨a, vs, rfl, h1, rv, z⟩ := seq_lst h r e1
    obtain ⟨rfl, rfl⟩ := ints_rep rv e
    exact ⟨a, rfl, .inl (.inl h1), by simpa using z⟩
  · cases e
def fSum (ds : List D) (S : Sto) : Res D := match ds with
  | [d] => match lintsOf S d with
    | some ns => .ok (.int ns.sum) S
    | none => .bad
  | _ => .bad
def maxI : Int → List Int → Int
  | m, [] => m
  | m, n :: ns => maxI (if m < n then n else m) ns
def minI : Int → List Int → Int
  | m, [] => m
  | m, n :: ns => minI (if n < m then n else m) ns
theorem maxI_ge : ∀ (ns : List Int) (m : Int), m ≤ maxI m ns ∧ (∀ y ∈ ns, y ≤ maxI m ns) ∧ (maxI m ns = m ∨ maxI m ns ∈ ns)
  | [], m => ⟨Int.le_refl _, by simp, .inl rfl⟩
  | n :: ns, m => by
    obtain ⟨h1, h2, h3⟩ := maxI_ge ns (if m < n then n else m)
    unfold maxI
    refine ⟨?_, fun y hy => ?_, ?_⟩
    · split at h1 <;> rename_i h <;> simp only [h, if_true, if_false] <;> omega
    · rcases List.mem_cons.mp hy with rfl | hy
      · split at h1 <;> rename_i h <;> simp only [h, if_true, if_false] <;> omega
      · exact h2 y hy
    · rcases h3 with h3 | h3
      · rw [h3]
        split
        · exact .inr (List.mem_cons_self ..)
        · exact .inl rfl
      · exact .inr (List.mem_cons_of_mem _ h3)
theorem minI_le : ∀ (ns : List Int) (m : Int), minI m ns ≤ m ∧ (∀ y ∈ ns, minI m ns ≤ y) ∧ (minI m ns = m ∨ minI m ns ∈ ns)
  | [], m => ⟨Int.le_refl _, by simp, .inl rfl⟩
  | n :: ns, m => by
    obtain ⟨h1, h2, h3⟩ := minI_le ns (if n < m then n else m)
    unfold minI
    refine ⟨?_, fun y hy => ?_, ?_⟩
    · split at h1 <;> rename_i h <;> simp only [h, if_true, if_false] <;> omega
    · rcases List.mem_cons.mp hy with rfl | hy
      · split at h1 <;> rename_i h <;> simp only [h, if_true, if_false] <;> omega
      · exact h2 y hy
    · rcases h3 with h3 | h3
      · rw [h3]
        split
        · exact .inr (List.mem_cons_self ..)
        · exact .inl rfl
      · exact .inr (List.mem_cons_of_mem _ h3)
def fMaxL (ds : List D) (S : Sto) : Res D := match ds with
  | [d] => match lintsOf S d with
    | some (n :: ns) => .ok (.int (maxI n ns)) S
    | _ => .bad
  | _ => .bad
def fMinL (ds : List D) (S : Sto) : Res D := match ds with
  | [d] => match lintsOf S d with
    | some (n :: ns) => .ok (.int (minI n ns)) S
    | _ => .bad
  | _ => .bad
def sortI (ns : List Int) : List Int := ns.mergeSort fun a b => decide (a ≤ b)
theorem sortI_perm (ns : List Int) : (sortI ns).Perm ns := List.mergeSort_perm ..
theorem sortI_sorted (ns : List Int) : (sortI ns).Pairwise (· ≤ ·) := by
  have h := List.pairwise_mergeSort (le := fun (a b : Int) => decide (a ≤ b)) (fun a b c h1 h2 => by simp only [decide_eq_true_eq] at *; omega) (fun a b => by simp only [Bool.or_eq_true, decide_eq_true_eq]; omega) ns
  exact h.imp fun h => by simpa using h
theorem sorted_eq {as bs : List Int} (h : as.Perm bs) (ha : as.Pairwise (· ≤ ·)) (hb : bs.Pairwise (· ≤ ·)) : as = bs := by
  induction as generalizing bs with
  | nil => exact h.nil_eq
  | cons a as ih =>
    cases bs with
    | nil => exact absurd h.eq_nil (by simp)
    | cons b bs =>
      have ha1 := List.pairwise_cons.mp ha
      have hb1 := List.pairwise_cons.mp hb
      have e : a = b := by
        have h1 : a ∈ b :: bs := h.subset (List.mem_cons_self ..)
        have h2 : b ∈ a :: as := h.symm.subset (List.mem_cons_self ..)
        rcases List.mem_cons.mp h1 with h1 | h1
        · exact h1
        · rcases List.mem_cons.mp h2 with h2 | h2
          · exact h2.symm
          · have := hb1.1 a h1
            have := ha1.1 b h2
            omega
      subst e
      rw [ih (List.perm_cons a |>.mp h) ha1.2 hb1.2]
def fSorted (ds : List D) (S : Sto) : Res (List D) := match ds with
  | [d] => match lintsOf S d with
    | some ns => .ok ((sortI ns).map .int) S
    | none => .bad
  | _ => .bad
section
variable {X : Cx}
theorem k_sum : RLK X (rSum X.K) fSum := by
  intro H S F m xs ds Q E h r p
  unfold fSum at p
  split at p
  · cases r with
    | cons a b =>
      cases b
      split at p
      · rename_i ns e
        obtain ⟨l, rfl, h1, _⟩ := lints_ok h a e
        exact ⟨l, ns, rfl, h1, p _ H F m h (Ext.refl _ _ _) (.int _)⟩
      · exact p.elim
  · exact p.elim
theorem k_maxL : RLK X (rMax X.K) fMaxL := by
  intro H S F m xs ds Q E h r p
  unfold fMaxL at p
  split at p
  · cases r with
    | cons a b =>
      cases b
      split at p
      · rename_i n ns e
        obtain ⟨l, rfl, h1, _⟩ := lints_ok h a e
        refine ⟨l, n :: ns, rfl, h1, Nat.succ_pos _, fun k hk hy => ?_⟩
        obtain ⟨m1, m2, m3⟩ := maxI_ge ns n
        have e2 : k = maxI n ns := by
          have a1 : k ≤ maxI n ns := by
            rcases List.mem_cons.mp hk with rfl | hk
            · exact m1
            · exact m2 k hk
          have a2 : maxI n ns ≤ k := by
            rcases m3 with m3 | m3
            · rw [m3]; exact hy n (List.mem_cons_self ..)
            · exact hy _ (List.mem_cons_of_mem _ m3)
          omega
        rw [e2]
        exact p _ H F m h (Ext.refl _ _ _) (.int _)
      · exact p.elim
  · exact p.elim
theorem k_minL : RLK X (rMin X.K) fMinL := by
  intro H S F m xs ds Q E h r p
  unfold fMinL at p
  split at p
  · cases r with
    | cons a b =>
      cases b
      split at p
      · rename_i n ns e
        obtain ⟨l, rfl, h1, _⟩ := lints_ok h a e
        refine ⟨l, n :: ns, rfl, h1, Nat.succ_pos _, fun k hk hy => ?_⟩
        obtain ⟨m1, m2, m3⟩ := minI_le ns n
        have e2 : k = minI n ns := by
          have a1 : minI n ns ≤ k := by
            rcases List.mem_cons.mp hk with rfl | hk
            · exact m1
            · exact m2 k hk
          have a2 : k ≤ minI n ns := by
            rcases m3 with m3 | m3
            · rw [m3]; exact hy n (List.mem_cons_self ..)
            · exact hy _ (List.mem_cons_of_mem _ m3)
          omega
        rw [e2]
        exact p _ H F m h (Ext.refl _ _ _) (.int _)
      · exact p.elim
  · exact p.elim
theorem k_sorted : RNK X (rSortedI X.K) fSorted := by
  intro H S F m xs ds Q E h r p
  unfold fSorted at p
  split at p
  · cases r with
    | cons a b =>
      cases b
      split at p
      · rename_i ns e
        obtain ⟨l, rfl, h1, z⟩ := lints_ok h a e
        refine ⟨l, ns, rfl, h1, fun ns' q hp hs hq => ?_⟩
        have e2 : ns' = sortI ns := sorted_eq (hp.trans (sortI_perm ns).symm) hs (sortI_sorted ns)
        subst e2
        exact new_n h (rep_ints _) (by rw [List.length_map, (sortI_perm ns).length_eq]; exact z) p q hq
      · exact p.elim
  · exact p.elim
end
/-! ### in, not in: flat items -/
def flatD : D → Bool
  | .non => true
  | .bl _ => true
  | .int _ => true
  | .str _ => true
  | _ => false
def vOf : D → V
  | .non => .non
  | .bl b => .bl b
  | .int i => .int i
  | .str s => .str s
  | _ => .non
theorem flat_rep {K : PySem.W.Frag} {F : Hp} {m : List Addr} {d : D} {v : V} (r : Rep K F m d v) (e : flatD d = true) : v = vOf d ∧ flatV v = true := by
  cases r <;> first | exact ⟨rfl, rfl⟩ | cases e
theorem flat_reps {K : PySem.W.Frag} {F : Hp} {m : List Addr} : ∀ {ds : List D} {vs : List V}, RepL K F m ds vs → ds.all flatD = true → vs = ds.map vOf ∧ vs.all flatV = true
  | _, _, .nil, _ => ⟨rfl, rfl⟩
  | _, _, .cons a b, e => by
    rw [List.all_cons, Bool.and_eq_true] at e
    obtain ⟨h1, h2⟩ := flat_rep a e.1
    obtain ⟨h3, h4⟩ := flat_reps b e.2
    exact ⟨by rw [List.map_cons, ← h1, ← h3], by rw [List.all_cons, h2, h4]; rfl⟩
def inB (d : D) (xs : List D) : Bool := inV (vOf d) (xs.map vOf)
def fInS (neg : Bool) (x y : D) (S : Sto) : Res Bool := match seqD S y with
  | some (_, xs) => if flatD x = true ∧ xs.all flatD = true then .ok (if neg then !inB x xs else inB x xs) S else .bad
  | _ => .bad
theorem k_inS {X : Cx} {neg : Bool} : RCK X (rIn X.K neg) (fInS neg) := by
  intro H S F m x y dx dy Q E h rx ry p
  unfold fInS at p
  split at p
  · rename_i k xs e
    obtain ⟨a, vs, rfl, h1, rv, _⟩ := seq_any h ry e
    split at p
    · rename_i hc
      obtain ⟨e1, f1⟩ := flat_rep rx hc.1
      obtain ⟨e2, f2⟩ := flat_reps rv hc.2
      refine ⟨a, vs, rfl, h1, f1, f2, _, rfl, p _ H F m h (Ext.refl _ _ _) ?_⟩
      unfold inB; rw [e1, e2]
    · exact p.elim
  · exact p.elim
theorem mono_inS {K : PySem.W.Frag} {neg : Bool} : ∀ x y H (Q Q' : VK), (∀ v H', Q v H' → Q' v H') → rIn K neg x y H Q → rIn K neg x y H Q' := fun _ _ _ _ _ k h => by
  obtain ⟨p, xs, h1, h2, h3, h4, q⟩ := h
  exact ⟨p, xs, h1, h2, h3, h4, k _ _ q⟩
theorem inB_ints {k : Int} {ns : List Int} : inB (.int k) (ns.map .int) = decide (k ∈ ns) := by
  unfold inB inV
  rw [List.map_map, List.any_map]
  induction ns with
  | nil => rfl
  | cons n ns ih =>
    rw [List.any_cons, ih]
    show ((n == k) || _) = _
    by_cases h : k = n
    · subst h; simp
    · have h2 : ¬ n = k := fun e => h e.symm
      simp [h, h2]
theorem all_ints {ns : List Int} : (ns.map D.int).all flatD = true := by
  induction ns with
  | nil => rfl
  | cons n ns ih => rw [List.map_cons, List.all_cons, ih]; rfl
end DL

/-! DL: dicts, list(range(..)), a, b, c = x, y, z, xs[::-1]. -/
namespace DL
open PySem PySem.Spec PyProof.Rows L2
def keyOf : D → Option Key
  | .int i => some (.inl i)
  | .str s => some (.inr s)
  | _ => none
def keysOf : List D → Option (List Key)
  | [] => some []
  | d :: ds => match keyOf d, keysOf ds with
    | some k, some ks => some (k :: ks)
    | _, _ => none
section
variable {κ : Type} [DecidableEq κ]
def valD (kvs : List (κ × D)) (k : κ) : Option D := (kvs.find? fun kv => decide (kv.1 = k)).map (·.2)
def putD (kvs : List (κ × D)) (k : κ) (d : D) : List (κ × D) := if (kvs.any fun kv => decide (kv.1 = k)) = true then kvs.map (fun kv => if kv.1 = k then (kv.1, d) else kv) else kvs ++ [(k, d)]
def dropD (kvs : List (κ × D)) (k : κ) : List (κ × D) := kvs.filter fun kv => decide (kv.1 ≠ k)
variable {K : PySem.W.Frag} {F : Hp} {m : List Addr}
theorem rkv_len {kvs : List (κ × D)} {vs : List (κ × V)} (r : RepKV K F m kvs vs) : kvs.length = vs.length := by
  unfold RepKV at r
  induction r with
  | nil => rfl
  | cons _ _ ih => exact congrArg (· + 1) ih
theorem rkv_val {kvs : List (κ × D)} {vs : List (κ × V)} (r : RepKV K F m kvs vs) (k : κ) : (∀ d, valD kvs k = some d → ∃ v, valV vs k = some v ∧ Rep K F m d v) ∧ (valD kvs k = none → valV vs k = none) := by
  unfold RepKV at r
  induction r with
  | nil => exact ⟨fun d e => (by cases e), fun _ => rfl⟩
  | @cons p q ps qs hq t ih =>
    obtain ⟨e1, r1⟩ := hq
    by_cases h : p.1 = k
    · have h2 : q.1 = k := by rw [← e1]; exact h
      rw [valV_pos h2]
      have e : valD (p :: ps) k = some p.2 := by simp [valD, List.find?_cons, h]
      rw [e]
      exact ⟨fun d z => by cases z; exact ⟨_, rfl, r1⟩, fun z => by cases z⟩
    · have h2 : ¬ q.1 = k := by rw [← e1]; exact h
      rw [valV_neg h2]
      have e : valD (p :: ps) k = valD ps k := by simp [valD, List.find?_cons, h]
      rw [e]
      exact ih
theorem rkv_some {kvs : List (κ × D)} {vs : List (κ × V)} (r : RepKV K F m kvs vs) (k : κ) : (valV vs k).isSome = (valD kvs k).isSome := by
  obtain ⟨h1, h2⟩ := rkv_val r k
  cases e : valD kvs k with
  | none => rw [h2 e]; rfl
  | some d => obtain ⟨v, e2, _⟩ := h1 d e; rw [e2]; rfl
theorem rkv_any {kvs : List (κ × D)} {vs : List (κ × V)} (r : RepKV K F m kvs vs) (k : κ) : (vs.any fun kv => decide (kv.1 = k)) = kvs.any fun kv => decide (kv.1 = k) := by
  unfold RepKV at r
  induction r with
  | nil => rfl
  | @cons p q ps qs hq t ih => rw [List.any_cons, List.any_cons, ih, hq.1]
theorem rkv_put {kvs : List (κ × D)} {vs : List (κ × V)} (r : RepKV K F m kvs vs) (k : κ) {d : D} {v : V} (rd : Rep K F m d v) : RepKV K F m (putD kvs k d) (putK vs k v) := by
  unfold putD putK
  rw [rkv_any r k]
  split
  · rename_i hx
    clear hx
    unfold RepKV at r ⊢
    induction r with
    | nil => exact .nil
    | @cons p q ps qs hq t ih =>
      refine .cons ?_ ih
      by_cases h : p.1 = k
      · have h2 : q.1 = k := by rw [← hq.1]; exact h
        simp only [h, h2, if_true]
        exact ⟨trivial, rd⟩
      · have h2 : ¬ q.1 = k := by rw [← hq.1]; exact h
        simp only [h, h2, if_false]
        exact hq
  · exact Paired.snoc r ⟨rfl, rd⟩
theorem putD_len (kvs : List (κ × D)) (k : κ) (d : D) : (putD kvs k d).length ≤ kvs.length + 1 := by
  unfold putD
  split <;> simp
end
theorem key_rep {K : PySem.W.Frag} {F : Hp} {m : List Addr} {d : D} {v : V} {k : Key} (r : Rep K F m d v) (e : keyOf d = some k) : v = kV k := by
  cases r <;> cases e <;> rfl
theorem keys_rep {K : PySem.W.Frag} {F : Hp} {m : List Addr} : ∀ {ds : List D} {vs : List V} {ks : List Key}, RepL K F m ds vs → keysOf ds = some ks → vs = ks.map kV
  | _, _, ks, .nil, e => by cases e; rfl
  | d :: ds, _, ks, .cons a b, e => by
    unfold keysOf at e
    split at e
    · rename_i k ks' e1 e2
      cases e
      rw [key_rep a e1, keys_rep b e2]; rfl
    · cases e
/-- d[y]: none: no such dict or key; some none: the key is not there -/
def getD' (x y : D) (S : Sto) : Option (Option D) := match x with
  | .loc n => match S[n]? with
    | some (.dk kvs) => (keyOf y).map (valD kvs)
    | some (.dt kvs) => match y with
      | .tup ds => (keysOf ds).map (valD kvs)
      | _ => none
    | _ => none
  | _ => none
theorem dget_ok {K : PySem.W.Frag} {H F : Hp} {S : Sto} {m : List Addr} {x y : D} {vx vy : V} {o : Option D} (h : HSt K H S F m) (rx : Rep K F m x vx) (ry : Rep K F m y vy) (e : getD' x y S = some o) :
    ∃ a ov, vx = .ref a ∧ DGet H a vy ov ∧ ov.isSome = o.isSome ∧ ∀ d, o = some d → ∃ v, ov = some v ∧ Rep K F m d v := by
  cases rx with
  | @loc n a l =>
    unfold getD' at e
    dsimp only at e
    split at e
    · rename_i kvs es
      obtain ⟨fa, ho, hH, vs, rfl, z, rv⟩ := h.sto _ _ _ l es (by intro z; cases z)
      cases ek : keyOf y with
      | none => rw [ek] at e; cases e
      | some k =>
        rw [ek] at e
        cases e
        refine ⟨a, _, rfl, .inl ⟨vs, k, .inl hH, key_rep ry ek, rfl⟩, rkv_some rv k, fun d ed => (rkv_val rv k).1 d ed⟩
    · rename_i kvs es
      obtain ⟨fa, ho, hH, vs, rfl, z, rv⟩ := h.sto _ _ _ l es (by intro z; cases z)
      split at e
      · rename_i ds
        cases ek : keysOf ds with
        | none => rw [ek] at e; cases e
        | some ks =>
          rw [ek] at e
          cases e
          cases ry with
          | @tup b _ ws _ f q =>
            exact ⟨a, _, rfl, .inr ⟨vs, ks, b, .inl hH, rfl, by rw [h.fz _ _ f, keys_rep q ek], rfl⟩, rkv_some rv ks, fun d ed => (rkv_val rv ks).1 d ed⟩
      · cases e
    · cases e
  | _ => cases e
def putS (x y d : D) (S : Sto) : Option Sto := match x with
  | .loc n => match S[n]? with
    | some (.dk kvs) => match keyOf y with
      | some k => if kvs.length < sizeLine then some (S.set n (.dk (putD kvs k d))) else none
      | none => none
    | some (.dt kvs) => match y with
      | .tup ds => match keysOf ds with
        | some ks => if kvs.length < sizeLine then some (S.set n (.dt (putD kvs ks d))) else none
        | none => none
      | _ => none
    | _ => none
  | _ => none
theorem dput_ok {K : PySem.W.Frag} {H F : Hp} {S S' : Sto} {m : List Addr} {x y d : D} {vx vy v : V} (h : HSt K H S F m) (rx : Rep K F m x vx) (ry : Rep K F m y vy) (rd : Rep K F m d v) (e : putS x y d S = some S') :
    ∃ a H', vx = .ref a ∧ DPut H a vy v H' ∧ HSt K H' S' F m ∧ Ext H H' F F m m := by
  cases rx with
  | @loc n a l =>
    unfold putS at e
    dsimp only at e
    split at e
    · rename_i kvs es
      obtain ⟨fa, ho, hH, vs, rfl, z, rv⟩ := h.sto _ _ _ l es (by intro z; cases z)
      split at e
      · rename_i k ek
        split at e
        · rename_i hz
          cases e
          obtain ⟨h2, x2⟩ := h.write l es (by intro z; cases z) (o := .dk (putD kvs k d)) (ho := .dK (putK vs k v)) ⟨_, rfl, by have := putD_len kvs k d; omega, rkv_put rv k rd⟩
          exact ⟨a, _, rfl, .inl ⟨vs, k, hH, key_rep ry ek, by rw [← rkv_len rv]; exact hz, rfl⟩, h2, x2⟩
        · cases e
      · cases e
    · rename_i kvs es
      obtain ⟨fa, ho, hH, vs, rfl, z, rv⟩ := h.sto _ _ _ l es (by intro z; cases z)
      split at e
      · rename_i ds
        split at e
        · rename_i ks ek
          split at e
          · rename_i hz
            cases e
            cases ry with
            | @tup b _ ws _ f q =>
              obtain ⟨h2, x2⟩ := h.write l es (by intro z; cases z) (o := .dt (putD kvs ks d)) (ho := .dT (putK vs ks v)) ⟨_, rfl, by have := putD_len kvs ks d; omega, rkv_put rv ks rd⟩
              exact ⟨a, _, rfl, .inr ⟨vs, ks, b, hH, rfl, by rw [h.fz _ _ f, keys_rep q ek], by rw [← rkv_len rv]; exact hz, rfl⟩, h2, x2⟩
          · cases e
        · cases e
      · cases e
    · cases e
  | _ => cases e
def fDx (x y : D) (S : Sto) : Res D := match getD' x y S with
  | some (some d) => .ok d S
  | _ => .bad
def fDin (neg : Bool) (x y : D) (S : Sto) : Res Bool := match getD' y x S with
  | some o => .ok (if neg then !o.isSome else o.isSome) S
  | none => .bad
def dNewK : Ev D := fun _ S => .ok (.loc S.length) (S ++ [.dk []])
def dNewT : Ev D := fun _ S => .ok (.loc S.length) (S ++ [.dt []])
def dPut (e o i : Ev D) : St' := fun ρ S => (e ρ S).bindS ρ fun d S1 => (o ρ S1).bindS ρ fun x S2 => (i ρ S2).bindS ρ fun y S3 => match putS x y d S3 with
  | some S4 => .nx ρ S4
  | none => .bad
section
variable {X : Cx} {o i e : Expr} {pos tpos p : Pos} {go gi ge : Ev D} {k : Nat}
theorem units1 (ok : XOk X k) : X.A.units + 1 < cLine := by have := ok.room.units; omega
theorem de_dx (ok : XOk X k) (ho : DE X o go) (hi : DE X i gi) (hs : NoSl i) : DE X (.Subscript o i pos) (dOp fDx go gi) := by
  refine ⟨fun W tk => ?_⟩
  obtain ⟨t1, p1, r1⟩ := ho.ex W tk
  obtain ⟨t2, p2, r2⟩ := hi.ex W tk
  refine ⟨_, pe_dget (units1 ok) p1 p2 hs, fun σ H ρ S F m Q sl h q => ?_⟩
  refine r1 σ H ρ S F m _ sl h (Post.bind q fun x S1 v H1 F1 m1 h1 x1 rx p1 => ?_)
  refine r2 σ H1 ρ S1 F1 m1 _ (sl.le x1.le) h1 (Post.bind p1 fun y S2 w H2 F2 m2 h2 x2 ry p2 => ?_)
  unfold fDx at p2
  split at p2
  · rename_i d e1
    obtain ⟨a, ov, rfl, dg, _, hv⟩ := dget_ok h2 (rx.le x2.le) ry e1
    obtain ⟨u, rfl, ru⟩ := hv d rfl
    exact ⟨a, u, rfl, dg, p2 _ H2 F2 m2 h2 (Ext.refl _ _ _) ru⟩
  · exact p2.elim
theorem de_newK : DE X (.Dict [] [] pos) dNewK := by
  refine ⟨fun W tk => ⟨_, pe_dnewK, fun σ H ρ S F m Q sl h q a n => ?_⟩⟩
  obtain ⟨h2, x2⟩ := h.push n (o := .dk []) (ho := .dK []) ⟨[], rfl, Nat.zero_le _, .nil⟩
  exact q _ _ F (m ++ [a]) h2 x2 (.loc (by rw [← h.len, List.getElem?_append_right (Nat.le_refl _), Nat.sub_self]; rfl))
theorem de_newT : DE X (.Dict [] [] pos) dNewT := by
  refine ⟨fun W tk => ⟨_, pe_dnewT, fun σ H ρ S F m Q sl h q a n => ?_⟩⟩
  obtain ⟨h2, x2⟩ := h.push n (o := .dt []) (ho := .dT []) ⟨[], rfl, Nat.zero_le _, .nil⟩
  exact q _ _ F (m ++ [a]) h2 x2 (.loc (by rw [← h.len, List.getElem?_append_right (Nat.le_refl _), Nat.sub_self]; rfl))
theorem ds_put (ok : XOk X k) (h : DE X e ge) (ho : DE X o go) (hi : DE X i gi) (hs : swapsWith e (some (.Subscript o i tpos)) pos.line X.env = pure false := by rfl) : DS X (.Assign [.Subscript o i tpos] e pos) (dPut ge go gi) := by
  refine ⟨fun W tk => ?_⟩
  obtain ⟨t, pt, rt⟩ := h.ex W tk
  obtain ⟨t1, pt1, rt1⟩ := ho.ex W tk
  obtain ⟨t2, pt2, rt2⟩ := hi.ex W tk
  refine ⟨_, ps_dput (units1 ok) pt1 pt2 pt hs, fun σ H ρ S F m N sl h p => ?_⟩
  refine rt σ H ρ S F m _ sl h (Post.bindS sl p fun d S1 v H1 F1 m1 h1 x1 r1 p1 => ?_)
  refine rt1 σ H1 ρ S1 F1 m1 _ (sl.le x1.le) h1 (Post.bindS (sl.le x1.le) p1 fun o S2 ov H2 F2 m2 h2 x2 r2 p2 => ?_)
  refine rt2 σ H2 ρ S2 F2 m2 _ (sl.le (x1.trans x2).le) h2 (Post.bindS (sl.le (x1.trans x2).le) p2 fun i S3 iv H3 F3 m3 h3 x3 r3 p3 => ?_)
  split at p3
  · rename_i S4 e4
    obtain ⟨a, H4, rfl, dp, h4, x4⟩ := dput_ok h3 (r2.le x3.le) r3 (r1.le (x2.trans x3).le) e4
    exact ⟨a, H4, rfl, dp, p3 σ H4 F3 m3 (sl.le (x1.trans (x2.trans x3)).le) h4 x4⟩
  · exact p3.elim
/-- y in d as a test -/
theorem dt_din (ok : XOk X k) (hi : DE X i gi) (ho : DE X o go) (hm : behindInMarks .In o = false := by rfl) : DT X (.Compare i [.In] [o] pos) (dCm (fDin false) gi go) := by
  refine ⟨fun W tk => ?_⟩
  obtain ⟨t1, p1, r1⟩ := ho.ex W tk
  obtain ⟨t2, p2, r2⟩ := hi.ex W tk
  refine ⟨_, pt_cmp (pc_din (units1 ok) p2 p1) hm, fun σ H ρ S F m Q sl h q => ?_⟩
  refine r2 σ H ρ S F m _ sl h (Post.bind q fun y S1 v H1 F1 m1 h1 x1 ry p1 => ?_)
  refine r1 σ H1 ρ S1 F1 m1 _ (sl.le x1.le) h1 (Post.bind p1 fun x S2 w H2 F2 m2 h2 x2 rx p2 => ?_)
  unfold fDin at p2
  split at p2
  · rename_i o e1
    obtain ⟨a, ov, rfl, dg, es, _⟩ := dget_ok h2 rx (ry.le x2.le) e1
    refine ⟨a, ov, rfl, dg, _, rfl, p2 _ H2 F2 m2 h2 (Ext.refl _ _ _) ?_⟩
    rw [es]; rfl
  · exact p2.elim
theorem dt_dnotin (ok : XOk X k) (hi : DE X i gi) (ho : DE X o go) (hm : behindInMarks .NotIn o = false := by rfl) : DT X (.Compare i [.NotIn] [o] pos) (dCm (fDin true) gi go) := by
  refine ⟨fun W tk => ?_⟩
  obtain ⟨t1, p1, r1⟩ := ho.ex W tk
  obtain ⟨t2, p2, r2⟩ := hi.ex W tk
  refine ⟨_, pt_cmp (pc_dnotin (units1 ok) p2 p1) hm, fun σ H ρ S F m Q sl h q => ?_⟩
  refine r2 σ H ρ S F m _ sl h (Post.bind q fun y S1 v H1 F1 m1 h1 x1 ry p1 => ?_)
  refine r1 σ H1 ρ S1 F1 m1 _ (sl.le x1.le) h1 (Post.bind p1 fun x S2 w H2 F2 m2 h2 x2 rx p2 => ?_)
  unfold fDin at p2
  split at p2
  · rename_i o e1
    obtain ⟨a, ov, rfl, dg, es, _⟩ := dget_ok h2 rx (ry.le x2.le) e1
    refine ⟨a, ov, rfl, dg, _, rfl, p2 _ H2 F2 m2 h2 (Ext.refl _ _ _) ?_⟩
    rw [es]; rfl
  · exact p2.elim
end
/-! ### a, b, c = x, y, z -/
def dPar3 (i j l : Nat) (gs : Ev (List D)) : St' := fun ρ S => (gs ρ S).bindS ρ fun ds S1 => match ds with
  | [d, e, f] => .nx (((ρ.set i (some d)).set j (some e)).set l (some f)) S1
  | _ => .bad
theorem ds_par3 {X : Cx} {gs : Ev (List D)} {pos : Pos} {k : Nat} (i j l : Nat) {x y z : Str} {a b c : Expr} {px py pz pt : Pos} {kt k2 pt2} (ok : XOk X k) (ha : DA X [a, b, c] gs) (hij : i ≠ j := by decide) (hil : i ≠ l := by decide) (hjl : j ≠ l := by decide) (hi : X.N[i]? = some x := by rfl) (hj : X.N[j]? = some y := by rfl) (hl : X.N[l]? = some z := by rfl)
    (hx : X.env.scope.names.lookup x = some .local := by rfl) (hy : X.env.scope.names.lookup y = some .local := by rfl) (hz : X.env.scope.names.lookup z = some .local := by rfl) (hw : swappedStores [.Tuple [.Name x px, .Name y py, .Name z pz] kt pt] (.Tuple [a, b, c] k2 pt2) X.env = pure (some [x, y, z]) := by rfl)
    (hs : swapsWithSole [.Tuple [.Name x px, .Name y py, .Name z pz] kt pt] (.Tuple [a, b, c] k2 pt2) pos.line X.env = pure false := by rfl) : DS X (.Assign [.Tuple [.Name x px, .Name y py, .Name z pz] kt pt] (.Tuple [a, b, c] k2 pt2) pos) (dPar3 i j l gs) := by
  refine ⟨fun W tk => ?_⟩
  obtain ⟨t, pt, rt⟩ := ha.ex W tk
  refine ⟨_, ps_par3 ok.calm ok.nd hi hj hl hij hil hjl hx hy hz pt hw hs, fun σ H ρ S F m N sl h p => ?_⟩
  refine rt σ H ρ S F m _ sl h (Post.bindS sl p fun ds S1 vs H1 F1 m1 h1 x1 r1 p1 => ?_)
  split at p1
  · cases r1 with
    | cons r1 r2 => cases r2 with
      | cons r2 r3 => cases r3 with
        | cons r3 r4 =>
          cases r4
          exact ⟨_, _, _, rfl, p1 _ H1 F1 m1 ((((sl.le x1.le).set i r1).set j r2).set l r3) h1 (Ext.refl _ _ _)⟩
  · exact p1.elim
/-! ### list(range(..)), tuple(range(..)) -/
def dLRg1 (a : Ev D) : Ev (List D) := fun ρ S => (a ρ S).bind fun d S1 => fRange [d] S1
def dLRg2 (a b : Ev D) : Ev (List D) := fun ρ S => (a ρ S).bind fun d S1 => (b ρ S1).bind fun e S2 => fRange [d, e] S2
section
variable {X : Cx} {e e2 : Expr} {pos p p2 pos2 : Pos} {ga gb : Ev D} {k : Nat}
theorem rg_map (lo : Int) (n : Nat) : rngI lo n = ((List.range n).map fun i => (lo + (i : Nat) : Int)).map .int := by
  unfold rngI; rw [List.map_map]; rfl
theorem rgV_map (a b : Int) : rgV a b = ((List.range (b - a).toNat).map fun i => (a + (i : Nat) : Int)).map .int := by
  unfold rgV; rw [List.map_map]; rfl
theorem rep_rg {K : PySem.W.Frag} {F : Hp} {m : List Addr} (a b : Int) : RepL K F m (rngI a (b - a).toNat) (rgV a b) := by
  rw [rg_map, rgV_map]; exact rep_ints _
theorem fR1 {d : D} {S S' : Sto} {r : List D} (e : fRange [d] S = .ok r S') : ∃ j, d = .int j ∧ r = rngI 0 (j - 0).toNat ∧ S' = S ∧ RgOk 0 j := by
  unfold fRange at e
  split at e
  · rename_i j e1
    cases e1
    split at e
    · rename_i hc
      cases e
      refine ⟨j, rfl, by rw [Int.sub_zero], rfl, ?_⟩
      unfold RgOk; omega
    · cases e
  · rename_i e1; cases e1
  · cases e
theorem fR2 {d d2 : D} {S S' : Sto} {r : List D} (e : fRange [d, d2] S = .ok r S') : ∃ i j, d = .int i ∧ d2 = .int j ∧ r = rngI i (j - i).toNat ∧ S' = S ∧ RgOk i j := by
  unfold fRange at e
  split at e
  · rename_i e1; cases e1
  · rename_i i j e1
    cases e1
    split at e
    · rename_i hc
      cases e
      refine ⟨i, j, rfl, rfl, rfl, rfl, ?_⟩
      unfold RgOk; omega
    · cases e
  · cases e
theorem fR_nox {ds : List D} {S S' : Sto} {x : XV} : fRange ds S ≠ .exc x S' := by
  unfold fRange
  intro e
  split at e
  · split at e <;> cases e
  · split at e <;> cases e
  · cases e
theorem rg_small {a b : Int} (h : RgOk a b) : (rngI a (b - a).toNat).length ≤ sizeLine := by
  rw [rng_len, sizeLine_eq]; exact h.2.2.2.2
theorem dn_listRg1 (ok : XOk X k) (hgl : Gl X "list") (hml : X.mg "list" = none) (hg : Gl X "range") (hm : X.mg "range" = none) (ha : DE X e ga) (na : starEach [e] X.env = (false, eval e X.env) :: starEach [] X.env := by rfl) (na2 : starEach [(.Call (.Name "range" p2) [e] [] pos2)] X.env = (false, eval (.Call (.Name "range" p2) [e] [] pos2) X.env) :: starEach [] X.env := by rfl) :
    DN X (.Call (.Name "list" p) [.Call (.Name "range" p2) [e] [] pos2] [] pos) (dLRg1 ga) := by
  refine ⟨fun W tk => ?_⟩
  obtain ⟨t, pt, rt⟩ := ha.ex W tk
  refine ⟨_, pe_listRg ok.calm hgl hml (prg_1 hg hm pt na) na2, fun σ H ρ S F m Q sl h q => ?_⟩
  refine rt σ H ρ S F m _ sl h (Post.bindN q fun d S1 v H1 F1 m1 h1 x1 r1 p1 => ?_)
  cases er : fRange [d] S1 with
  | bad => rw [er] at p1; exact p1.elim
  | exc x S2 => exact absurd er fR_nox
  | ok r S2 =>
    obtain ⟨j, rfl, rfl, rfl, hr⟩ := fR1 er
    rw [er] at p1
    cases r1
    exact ⟨j, rfl, hr, new_n h1 (rep_rg 0 j) (rg_small hr) p1⟩
theorem dn_listRg2 (ok : XOk X k) (hgl : Gl X "list") (hml : X.mg "list" = none) (hg : Gl X "range") (hm : X.mg "range" = none) (ha : DE X e ga) (hb : DE X e2 gb) (na : starEach [e, e2] X.env = (false, eval e X.env) :: starEach [e2] X.env := by rfl) (nb : starEach [e2] X.env = (false, eval e2 X.env) :: starEach [] X.env := by rfl) (hp : (backTo pos2 (starEach [e2] X.env)).any (·.1) = false := by rfl)
    (na2 : starEach [(.Call (.Name "range" p2) [e, e2] [] pos2)] X.env = (false, eval (.Call (.Name "range" p2) [e, e2] [] pos2) X.env) :: starEach [] X.env := by rfl) :
    DN X (.Call (.Name "list" p) [.Call (.Name "range" p2) [e, e2] [] pos2] [] pos) (dLRg2 ga gb) := by
  refine ⟨fun W tk => ?_⟩
  obtain ⟨t, pt, rt⟩ := ha.ex W tk
  obtain ⟨t2, pt2, rt2⟩ := hb.ex W tk
  refine ⟨_, pe_listRg ok.calm hgl hml (prg_2 hg hm pt pt2 na nb hp) na2, fun σ H ρ S F m Q sl h q => ?_⟩
  refine rt σ H ρ S F m _ sl h (Post.bindN q fun d S1 v H1 F1 m1 h1 x1 r1 p1 => ?_)
  refine rt2 σ H1 ρ S1 F1 m1 _ (sl.le x1.le) h1 (Post.bindN p1 fun d2 S2 v2 H2 F2 m2 h2 x2 r2 p2 => ?_)
  cases er : fRange [d, d2] S2 with
  | bad => rw [er] at p2; exact p2.elim
  | exc x S2 => exact absurd er fR_nox
  | ok r S3 =>
    obtain ⟨i, j, rfl, rfl, rfl, rfl, hr⟩ := fR2 er
    rw [er] at p2
    cases r1
    cases r2
    exact ⟨i, j, rfl, rfl, hr, new_n h2 (rep_rg i j) (rg_small hr) p2⟩
/-- tuple(range(..)) -/
def dTRg1 (a : Ev D) : Ev D := fun ρ S => (a ρ S).bind fun d S1 => (fRange [d] S1).bind fun r S2 => .ok (.tup r) S2
theorem de_tupRg1 (ok : XOk X k) (hgl : Gl X "tuple") (hml : X.mg "tuple" = none) (hg : Gl X "range") (hm : X.mg "range" = none) (ha : DE X e ga) (na : starEach [e] X.env = (false, eval e X.env) :: starEach [] X.env := by rfl) (na2 : starEach [(.Call (.Name "range" p2) [e] [] pos2)] X.env = (false, eval (.Call (.Name "range" p2) [e] [] pos2) X.env) :: starEach [] X.env := by rfl) :
    DE X (.Call (.Name "tuple" p) [.Call (.Name "range" p2) [e] [] pos2] [] pos) (dTRg1 ga) := by
  refine ⟨fun W tk => ?_⟩
  obtain ⟨t, pt, rt⟩ := ha.ex W tk
  refine ⟨_, pe_tupRg ok.calm hgl hml (prg_1 hg hm pt na) na2, fun σ H ρ S F m Q sl h q => ?_⟩
  refine rt σ H ρ S F m _ sl h (Post.bind q fun d S1 v H1 F1 m1 h1 x1 r1 p1 => ?_)
  cases er : fRange [d] S1 with
  | bad => rw [er] at p1; exact p1.elim
  | exc x S2 => exact absurd er fR_nox
  | ok r S2 =>
    obtain ⟨j, rfl, rfl, rfl, hr⟩ := fR1 er
    rw [er] at p1
    cases r1
    exact ⟨j, rfl, hr, fun a n => p1 _ _ _ _ (h1.froz n _) (h1.frozE n _) (.tup (rg_small hr) upd_same (rep_rg 0 j))⟩
/-- xs[::-1] of a list -/
def fRev (ds : D) (S : Sto) : Res (List D) := match seqD S ds with
  | some (.lst, xs) => .ok xs.reverse S
  | _ => .bad
def dRevL (a : Ev D) : Ev (List D) := fun ρ S => (a ρ S).bind fun d S1 => fRev d S1
theorem dn_revL {kk : Nat} {p1 p2 p3 pos : Pos} (ha : DE X e ga) : DN X (.Subscript e (.Slice none none (some (.UnaryOp .USub (.Constant (.int 1) kk p1) p2)) p3) pos) (dRevL ga) := by
  refine ⟨fun W tk => ?_⟩
  obtain ⟨t, pt, rt⟩ := ha.ex W tk
  refine ⟨_, pe_revL pt, fun σ H ρ S F m Q sl h q => ?_⟩
  refine rt σ H ρ S F m _ sl h (Post.bindN q fun d S1 v H1 F1 m1 h1 x1 r1 p1 => ?_)
  unfold fRev at p1
  split at p1
  · rename_i xs e1
    obtain ⟨a, vs, rfl, hh, rv, z⟩ := seq_lst h1 r1 e1
    exact ⟨a, vs, rfl, .inl (.inl hh), new_n h1 rv.reverse (by rw [List.length_reverse]; exact z) p1⟩
  · exact p1.elim
end
end DL

/-! DL: what is true at the end: methods, dicts, while. -/
namespace DL
open PySem PySem.Spec PyProof.Rows L2
variable {EX : XP} {ES : XPs}
section
variable {α β : Type} {S : Sto} {ρ : DEnv} {N B C : DEnv → Sto → Prop} {R : D → Sto → Prop}
theorem wp_lrg1 {a : Ev D} {Q : List D → Sto → Prop} : WpE EX (dLRg1 a ρ S) Q = WpE EX (a ρ S) fun d S1 => WpE EX (fRange [d] S1) Q := wp_bind
theorem wp_lrg2 {a b : Ev D} {Q : List D → Sto → Prop} : WpE EX (dLRg2 a b ρ S) Q = WpE EX (a ρ S) fun d S1 => WpE EX (b ρ S1) fun e S2 => WpE EX (fRange [d, e] S2) Q := by
  unfold dLRg2; rw [wp_bind]; congr 1; funext d S1; rw [wp_bind]
theorem wp_trg1 {a : Ev D} {Q : D → Sto → Prop} : WpE EX (dTRg1 a ρ S) Q = WpE EX (a ρ S) fun d S1 => WpE EX (fRange [d] S1) fun r S2 => Q (.tup r) S2 := by
  unfold dTRg1; rw [wp_bind]; congr 1; funext d S1; rw [wp_bind]; rfl
theorem wp_revL {a : Ev D} {Q : List D → Sto → Prop} : WpE EX (dRevL a ρ S) Q = WpE EX (a ρ S) fun d S1 => WpE EX (fRev d S1) Q := wp_bind
theorem fRev_lst {xs : List D} : fRev (.lst xs) S = .ok xs.reverse S := rfl
theorem wp_ml {f : D → List D → Sto → Res D} {go : Ev D} {gs : Ev (List D)} {Q : D → Sto → Prop} : WpE EX (dMl f go gs ρ S) Q = WpE EX (go ρ S) fun x S1 => isLs S1 x = true ∧ WpE EX (gs ρ S1) fun ds S2 => WpE EX (f x ds S2) Q := by
  unfold dMl; rw [wp_bind]; congr 1; funext x S1
  split
  · rename_i h; rw [wp_bind]; simp [h]
  · rename_i h; simp [h, wp_bad]
theorem wp_ml0 {f : D → List D → Sto → Res D} {go : Ev D} {Q : D → Sto → Prop} : WpE EX (dMl0 f go ρ S) Q = WpE EX (go ρ S) fun x S1 => isLs S1 x = true ∧ WpE EX (f x [] S1) Q := by
  unfold dMl0; rw [wp_bind]; congr 1; funext x S1
  split
  · rename_i h; simp [h]
  · rename_i h; simp [h, wp_bad]
theorem wp_ms {f : D → List D → Sto → Res D} {go : Ev D} {gs : Ev (List D)} {Q : D → Sto → Prop} : WpE EX (dMs f go gs ρ S) Q = WpE EX (go ρ S) fun x S1 => isSt x = true ∧ WpE EX (gs ρ S1) fun ds S2 => WpE EX (f x ds S2) Q := by
  unfold dMs; rw [wp_bind]; congr 1; funext x S1
  split
  · rename_i h; rw [wp_bind]; simp [h]
  · rename_i h; simp [h, wp_bad]
theorem ws_put {e o i : Ev D} : WsE ES (dPut e o i ρ S) N R B C = WpE (ES.at ρ) (e ρ S) fun d S1 => WpE (ES.at ρ) (o ρ S1) fun x S2 => WpE (ES.at ρ) (i ρ S2) fun y S3 => ∃ S4, putS x y d S3 = some S4 ∧ N ρ S4 := by
  unfold dPut
  rw [ws_bindS]
  congr 1
  funext d S1
  rw [ws_bindS]
  congr 1
  funext x S2
  rw [ws_bindS]
  congr 1
  funext y S3
  cases putS x y d S3 with
  | none => simp [WsE]
  | some S4 => simp [WsE]
def parN3 (i j l : Nat) (ρ : DEnv) (ds : List D) (S : Sto) (N : DEnv → Sto → Prop) : Prop := match ds with
  | [d, e, f] => N (((ρ.set i (some d)).set j (some e)).set l (some f)) S
  | _ => False
theorem ws_par3 {i j l : Nat} {gs : Ev (List D)} : WsE ES (dPar3 i j l gs ρ S) N R B C = WpE (ES.at ρ) (gs ρ S) fun ds S1 => parN3 i j l ρ ds S1 N := by
  unfold dPar3
  rw [ws_bindS]
  congr 1
  funext ds S1
  match ds with
  | [] => rfl
  | [_] => rfl
  | [_, _] => rfl
  | [_, _, _] => rfl
  | _ :: _ :: _ :: _ :: _ => rfl
theorem ws_parN3 {i j l : Nat} {d e f : D} : parN3 i j l ρ [d, e, f] S N = N (((ρ.set i (some d)).set j (some e)).set l (some f)) S := rfl
theorem wp_newK {Q : D → Sto → Prop} : WpE EX (dNewK ρ S) Q = Q (.loc S.length) (S ++ [.dk []]) := rfl
theorem wp_newT {Q : D → Sto → Prop} : WpE EX (dNewT ρ S) Q = Q (.loc S.length) (S ++ [.dt []]) := rfl
theorem wp_dx {x y d : D} {Q : D → Sto → Prop} (e : getD' x y S = some (some d)) (q : Q d S) : WpE EX (fDx x y S) Q := by
  unfold fDx; rw [e]; exact q
theorem wp_din {neg : Bool} {x y : D} {o : Option D} {Q : Bool → Sto → Prop} (e : getD' y x S = some o) (q : Q (if neg then !o.isSome else o.isSome) S) : WpE EX (fDin neg x y S) Q := by
  unfold fDin; rw [e]; exact q
theorem getK {n : Nat} {kvs : List (Key × D)} {k : Int} (e : S[n]? = some (.dk kvs)) : getD' (.loc n) (.int k) S = some (valD kvs (.inl k)) := by
  unfold getD'; simp only [e]; rfl
theorem putK' {n : Nat} {kvs : List (Key × D)} {k : Int} {d : D} {Z : Sto → Prop} (e : S[n]? = some (.dk kvs)) (h : kvs.length < sizeLine) (q : Z (S.set n (.dk (putD kvs (.inl k) d)))) : ∃ S4, putS (.loc n) (.int k) d S = some S4 ∧ Z S4 := by
  refine ⟨_, ?_, q⟩
  unfold putS
  simp only [e, keyOf, h, if_true]
theorem stL_loc {n : Nat} {xs : List D} (e : S[n]? = some (.lst xs)) : stL S (.loc n) = some (n, xs) := by
  show (match S[n]? with | some (.lst xs) => some (n, xs) | _ => none) = _
  rw [e]
theorem isLs_loc {n : Nat} {xs : List D} (e : S[n]? = some (.lst xs)) : isLs S (.loc n) = true := by
  unfold isLs; rw [seqD_loc, e]
theorem isLs_lst {xs : List D} : isLs S (.lst xs) = true := rfl
theorem wp_append {n : Nat} {xs : List D} {d : D} {Q : D → Sto → Prop} (e : S[n]? = some (.lst xs)) (h : xs.length < sizeLine) (q : Q .non (S.set n (.lst (xs ++ [d])))) : WpE EX (fAppend (.loc n) [d] S) Q := by
  unfold fAppend; rw [stL_loc e]; dsimp only; rw [if_pos h]; exact q
theorem wp_popAt {n : Nat} {xs : List D} {i : Int} {k : Nat} {d : D} {Q : D → Sto → Prop} (e : S[n]? = some (.lst xs)) (h0 : 0 ≤ i) (h1 : i < 2 ^ 63) (hk : i.toNat = k) (hx : xs[k]? = some d) (q : Q d (S.set n (.lst (xs.eraseIdx k)))) : WpE EX (fPopAt (.loc n) [.int i] S) Q := by
  subst hk
  unfold fPopAt; rw [stL_loc e]; dsimp only
  have hl := (List.getElem?_eq_some_iff.mp hx).1
  have e2 : ixN xs.length i = some i.toNat := by unfold ixN; rw [if_pos h0, if_pos (by omega)]
  rw [if_pos ⟨by omega, h1⟩, e2]; dsimp only; rw [hx]; exact q
theorem wp_pop {n : Nat} {xs : List D} {d : D} {Q : D → Sto → Prop} (e : S[n]? = some (.lst xs)) (hx : xs[xs.length - 1]? = some d) (q : Q d (S.set n (.lst xs.dropLast))) : WpE EX (fPop (.loc n) [] S) Q := by
  unfold fPop; rw [stL_loc e]; dsimp only; rw [hx]; exact q
theorem wp_extend {n : Nat} {xs ys : List D} {d : D} {Q : D → Sto → Prop} (e : S[n]? = some (.lst xs)) (hd : seqD S d = some (.lst, ys)) (h : xs.length + ys.length ≤ sizeLine) (q : Q .non (S.set n (.lst (xs ++ ys)))) : WpE EX (fExtend (.loc n) [d] S) Q := by
  unfold fExtend; rw [stL_loc e]; dsimp only; rw [hd]; dsimp only; rw [if_pos h]; exact q
theorem wp_sorted {ns : List Int} {Q : List D → Sto → Prop} (q : Q ((sortI ns).map .int) S) : WpE EX (fSorted [.lst (ns.map .int)] S) Q := by
  unfold fSorted lintsOf
  dsimp only [seqD]
  rw [ints_of]
  exact q
theorem wp_sum {ns : List Int} {Q : D → Sto → Prop} (q : Q (.int ns.sum) S) : WpE EX (fSum [.lst (ns.map .int)] S) Q := by
  unfold fSum lintsOf
  dsimp only [seqD]
  rw [ints_of]
  exact q
theorem wp_maxL {n : Int} {ns : List Int} {Q : D → Sto → Prop} (q : Q (.int (maxI n ns)) S) : WpE EX (fMaxL [.lst ((n :: ns).map .int)] S) Q := by
  unfold fMaxL lintsOf
  dsimp only [seqD]
  rw [ints_of]
  exact q
theorem wp_minL {n : Int} {ns : List Int} {Q : D → Sto → Prop} (q : Q (.int (minI n ns)) S) : WpE EX (fMinL [.lst ((n :: ns).map .int)] S) Q := by
  unfold fMinL lintsOf
  dsimp only [seqD]
  rw [ints_of]
  exact q
theorem wp_inI {neg : Bool} {k : Int} {ns : List Int} {Q : Bool → Sto → Prop} (q : Q (if neg then !decide (k ∈ ns) else decide (k ∈ ns)) S) : WpE EX (fInS neg (.int k) (.lst (ns.map .int)) S) Q := by
  unfold fInS
  dsimp only [seqD]
  rw [if_pos ⟨rfl, all_ints⟩, inB_ints]
  exact q
theorem wp_range2 {i j : Int} {Q : List D → Sto → Prop} (h : RgOk i j) (q : Q (rngI i (j - i).toNat) S) : WpE EX (fRange [.int i, .int j] S) Q := by
  unfold fRange
  dsimp only
  obtain ⟨h1, h2, h3, h4, h5⟩ := h
  rw [if_pos ⟨h1, h2, h3, h4, by omega⟩]; exact q
/-- a while by what holds at each turn, m turns left at most -/
theorem wh_inv {c : Ev Bool} {b : St'} {n : Nat} (I : Nat → DEnv → Sto → Prop) {m0 : Nat} (h0 : I m0 ρ S) (hn : m0 < n)
    (hs : ∀ m ρ S, I m ρ S → WpE (ES.at ρ) (c ρ S) fun k S1 => if k = true then WsE ES (b ρ S1) (fun ρ2 S2 => ∃ m2, m2 < m ∧ I m2 ρ2 S2) R (fun ρ S => N ρ S) (fun ρ2 S2 => ∃ m2, m2 < m ∧ I m2 ρ2 S2) else N ρ S1) : WsE ES (whGo c b n ρ S) N R B C := by
  induction n generalizing ρ S m0 with
  | zero => exact absurd hn (Nat.not_lt_zero _)
  | succ n ih =>
    unfold whGo
    rw [ws_bindS]
    refine WpE.mp (hs m0 ρ S h0) fun k S1 hk => ?_
    by_cases hk1 : k = true
    · rw [if_pos hk1] at hk ⊢
      cases eb : b ρ S1 with
      | nx ρ2 S2 =>
        rw [eb] at hk
        obtain ⟨m2, l, q⟩ := hk
        exact ih q (by omega)
      | ct ρ2 S2 =>
        rw [eb] at hk
        obtain ⟨m2, l, q⟩ := hk
        exact ih q (by omega)
      | bk ρ2 S2 => rw [eb] at hk; exact hk
      | rt d2 S2 => rw [eb] at hk; exact hk
      | exc _ _ _ => rw [eb] at hk; exact hk
      | bad => rw [eb] at hk; exact hk.elim
    · rw [if_neg hk1] at hk ⊢
      exact hk
/-! ### x != [] -/
theorem isL_ints (ns : List Int) : D.isL (ns.map .int) = true := by
  induction ns with
  | nil => rfl
  | cons n ns ih => rw [List.map_cons, D.isL, ih]; rfl
theorem shaped_lst {xs : List D} {n : Nat} (h : SmL xs n) : SeqAt.shaped (D.py (.lst xs)) = true := by
  have s := sm_lst h
  unfold SeqAt.shaped
  rw [s.cl]
  have := s.dp
  simp; omega
theorem eqv_nil {xs : List D} : PyData.eqv (D.py (.lst xs)) (D.py (.lst [])) = decide (xs = []) := by
  cases xs <;> simp [D.py, D.pyL, PyData.eqv, PyData.eqvAll]
theorem fNe_nil_loc {n : Nat} {xs : List D} {k : Nat} (e : S[n]? = some (.lst xs)) (h : SmL xs k) : fNe (.loc n) (.lst []) S = .ok (!decide (xs = [])) S := by
  unfold fNe fEq
  rw [dataOf_loc, e]
  dsimp only
  rw [if_pos h.isD, data_isD (show D.isD (.lst []) = true from rfl)]
  dsimp only
  unfold eqB
  rw [if_pos ⟨shaped_lst h, shaped_lst sml_nil⟩, eqv_nil]; rfl
theorem fEq_nil_loc {n : Nat} {xs : List D} {k : Nat} (e : S[n]? = some (.lst xs)) (h : SmL xs k) : fEq (.loc n) (.lst []) S = .ok (decide (xs = [])) S := by
  unfold fEq
  rw [dataOf_loc, e]
  dsimp only
  rw [if_pos h.isD, data_isD (show D.isD (.lst []) = true from rfl)]
  dsimp only
  unfold eqB
  rw [if_pos ⟨shaped_lst h, shaped_lst sml_nil⟩, eqv_nil]
theorem fNe_nil {xs : List D} {k : Nat} (h : SmL xs k) : fNe (.lst xs) (.lst []) S = .ok (!decide (xs = [])) S := by
  rw [fNe_sm (sm_lst h) (sm_lst sml_nil) rfl, eqv_nil]
theorem fEq_nil {xs : List D} {k : Nat} (h : SmL xs k) : fEq (.lst xs) (.lst []) S = .ok (decide (xs = [])) S := by
  rw [fEq_sm (sm_lst h) (sm_lst sml_nil) rfl, eqv_nil]
end
/-! ### small things used everywhere -/
theorem line_le {n : Nat} (h : n ≤ 10000) : n ≤ sizeLine := Nat.le_trans h (by decide)
theorem line_lt {n : Nat} (h : n < 10000) : n < sizeLine := Nat.lt_of_lt_of_le h (by decide)
theorem at_end {L : Sto} {x : O} : (L ++ [x])[L.length]? = some x := by simp
theorem set_end {L : Sto} {x y : O} : (L ++ [x]).set L.length y = L ++ [y] := by
  rw [List.set_append_right _ _ (Nat.le_refl _)]; simp
theorem rng_at {lo : Int} {n i : Nat} {d : D} (h : (rngI lo n)[i]? = some d) : i < n ∧ d = .int (lo + (i : Nat)) := by
  have hi : i < n := by
    have := (List.getElem?_eq_some_iff.mp h).1
    rwa [rng_len] at this
  rw [rng_get hi] at h
  exact ⟨hi, (Option.some.inj h).symm⟩
theorem map_get {f : List Int} {i : Nat} {d : D} (h : (f.map D.int)[i]? = some d) : ∃ x, d = .int x ∧ i < f.length ∧ f.take (i + 1) = f.take i ++ [x] ∧ x ∈ f := by
  rw [List.getElem?_map] at h
  cases e : f[i]? with
  | none => rw [e] at h; cases h
  | some x =>
    rw [e] at h
    obtain ⟨hi, rfl⟩ := List.getElem?_eq_some_iff.mp e
    exact ⟨_, (Option.some.inj h).symm, hi, by rw [List.take_succ_eq_append_getElem hi], List.getElem_mem hi⟩
theorem mapE_get {α : Type} {enc : α → D} {f : List α} {i : Nat} {d : D} (h : (f.map enc)[i]? = some d) : ∃ x, d = enc x ∧ i < f.length ∧ f.take (i + 1) = f.take i ++ [x] ∧ x ∈ f := by
  rw [List.getElem?_map] at h
  cases e : f[i]? with
  | none => rw [e] at h; cases h
  | some x =>
    rw [e] at h
    obtain ⟨hi, rfl⟩ := List.getElem?_eq_some_iff.mp e
    exact ⟨_, (Option.some.inj h).symm, hi, by rw [List.take_succ_eq_append_getElem hi], List.getElem_mem hi⟩
theorem wp_addL {xs ys : List D} {S : Sto} {Q : D → Sto → Prop} (h : xs.length + ys.length ≤ sizeLine) (q : Q (.lst (xs ++ ys)) S) : WpE EX (fAdd (.lst xs) (.lst ys) S) Q := by rw [fAdd_lst, if_pos h]; exact q
theorem wp_addT {xs ys : List D} {S : Sto} {Q : D → Sto → Prop} (h : xs.length + ys.length ≤ sizeLine) (q : Q (.tup (xs ++ ys)) S) : WpE EX (fAdd (.tup xs) (.tup ys) S) Q := by rw [fAdd_tup, if_pos h]; exact q
theorem nat_ite {c : Prop} [Decidable c] : ((if c then 1 else 0 : Nat) : Int) = if c then 1 else 0 := by split <;> rfl
theorem ints_fits {ns : List Int} (h : ∀ n ∈ ns, n.natAbs < 10 ^ 12) : SmL (ns.map .int) (42 * ns.length) := (sml_ints h).1
/-- items of ints at an int index -/
theorem ix_ints {ns : List Int} {i : Int} (h0 : 0 ≤ i) (h1 : i < ns.length) : ∃ x, ns[i.toNat]? = some x ∧ x ∈ ns ∧ atI (ns.map D.int) i = some (.int x) := by
  obtain ⟨d, a1, a2, a3⟩ := atI_at (l := ns.map D.int) h0 (by rw [List.length_map]; exact h1)
  rw [List.getElem?_map] at a3
  cases e : ns[i.toNat]? with
  | none => rw [e] at a3; cases a3
  | some x =>
    rw [e] at a3
    cases a3
    exact ⟨x, rfl, List.mem_of_getElem? e, a1⟩
end DL

/-! DL: the least of a list of pairs of ints; sorted pairs. -/
namespace DL
open PySem PySem.Spec PyProof.Rows L2 PySem.W
variable {EX : XP} {ES : XPs}
abbrev prD (x : Int × Int) : D := .tup [.int x.1, .int x.2]
abbrev prP (x : Int × Int) : PyData := .tuple [.int x.1, .int x.2]
def pairsOf : List D → Option (List (Int × Int))
  | [] => some []
  | .tup [.int a, .int b] :: r => (pairsOf r).map ((a, b) :: ·)
  | _ => none
theorem pairs_of : ∀ (ps : List (Int × Int)), pairsOf (ps.map prD) = some ps
  | [] => rfl
  | p :: ps => by
    show (pairsOf (ps.map prD)).map ((p.1, p.2) :: ·) = _
    rw [pairs_of ps]; rfl
theorem pairs_eq : ∀ {ds : List D} {ps : List (Int × Int)}, pairsOf ds = some ps → ds = ps.map prD
  | [], ps, e => by cases e; rfl
  | d :: ds, ps, e => by
    unfold pairsOf at e
    split at e
    · rename_i h; cases h
    · rename_i a b r h
      cases h
      cases er : pairsOf ds with
      | none => rw [er] at e; cases e
      | some qs =>
        rw [er] at e
        cases e
        rw [pairs_eq er]; rfl
    · cases e
def ltPr (y a : Int × Int) : Bool := decide (y.1 < a.1 ∨ (y.1 = a.1 ∧ y.2 < a.2))
def minP (p : Int × Int) (ps : List (Int × Int)) : Int × Int := ps.foldl (fun a y => if ltPr y a = true then y else a) p
theorem minD_P : ∀ (ps : List (Int × Int)) (p : Int × Int), minD (prP p) (ps.map prP) = prP (minP p ps)
  | [], p => rfl
  | q :: ps, p => by
    have ih := minD_P ps (if ltPr q p = true then q else p)
    have e : minD (prP p) ((q :: ps).map prP) = minD (if dataLt (prP q) (prP p) = true then prP q else prP p) (ps.map prP) := rfl
    have e2 : dataLt (prP q) (prP p) = ltPr q p := PySem.W.dataLt_ii _ _ _ _
    rw [e, e2]
    have e3 : (if ltPr q p = true then prP q else prP p) = prP (if ltPr q p = true then q else p) := by split <;> rfl
    rw [e3, ih]; rfl
theorem reads_pair {h : Heap} {v : Value} {x y : Int × Int} {as bs : List Addr} (r1 : Reads h v (prP x) as) (r2 : Reads h v (prP y) bs) : x = y := by
  cases r1 with
  | tuple h1 c1 d1 ra =>
    cases r2 with
    | tuple h2 c2 d2 rb =>
      rw [h1] at h2
      cases h2
      rw [d1] at d2
      cases d2
      generalize hl : Array.toList _ = l at ra rb
      clear hl
      cases ra with
      | cons r1 t1 =>
        cases rb with
        | cons r2 t2 =>
          cases t1 with
          | cons r3 t3 =>
            cases t2 with
            | cons r4 t4 =>
              obtain ⟨x1, x2⟩ := x
              obtain ⟨y1, y2⟩ := y
              cases r1
              cases r2
              cases r3
              cases r4
              rfl
theorem alike_pr (x y : Int × Int) : PySem.W.alike (prP x) (prP y) = true := by simp [PySem.W.alike, PySem.W.alikeAll]
theorem depth_pr : ∀ (ps : List (Int × Int)), PyData.depthAll (ps.map prP) ≤ 1
  | [] => Nat.zero_le _
  | p :: ps => by
    show max _ (PyData.depthAll (ps.map prP)) ≤ 1
    exact Nat.max_le.mpr ⟨by simp [PyData.depth, PyData.depthAll], depth_pr ps⟩
theorem dpAll_at {K : PySem.W.Frag} {H : Hp} : ∀ {vs : List V} {ds : List PyData} {i : Nat} {v : V}, DpAll K H vs ds → vs[i]? = some v → ∃ d, ds[i]? = some d ∧ Dp K H v d
  | _, _, 0, _, .cons a _, h => by simp at h; subst h; exact ⟨_, rfl, a⟩
  | _, _, i + 1, v, .cons _ b, h => by
    obtain ⟨d, h1, h2⟩ := dpAll_at (i := i) (v := v) b (by simpa using h)
    exact ⟨d, by simpa using h1, h2⟩
  | _, _, _, _, .nil, h => by simp at h
def rMinP (K : PySem.W.Frag) : List V → Hp → VK → Prop := fun vs H Q => ∃ (a : Addr) (xs : List V) (p : Int × Int) (ps : List (Int × Int)), vs = [V.ref a] ∧ SqL K H a xs ∧ DpAll K H xs ((p :: ps).map prP) ∧
  ∀ (i : Nat) (v : V), xs[i]? = some v → (p :: ps)[i]? = some (minP p ps) → Q v H
theorem cr_minP {X : Cx} {k : Nat} (ok : XOk X k) : CallR X (.builtin "min") (rMinP X.K) := by
  intro pins s σ H vs us Q I r h
  obtain ⟨a, xs, p, ps, rfl, hs, hd, q⟩ := h
  obtain ⟨its, rv, hl, _⟩ := I.list hs
  obtain ⟨u, rfl, ru⟩ := vals1 r
  obtain rfl : u = Value.ref a := ru
  obtain ⟨as, hr⟩ := Dp.readsAll I _ _ _ hd rv
  have hun := ok.room.units
  have hdp := depth_pr (p :: ps)
  refine min_list_data (x := prP p) (xs := ps.map prP) (I.ok.hd ok.calm) hl.isList (as := as) (by simpa using hr) ⟨?_, ?_⟩ (by show X.A.units + 1 + PyData.depthAll ((p :: ps).map prP) < cLine; omega) fun i v h' tk bs hi hv hk => ?_
  · intro x hx y hy
    obtain ⟨x', _, rfl⟩ := List.mem_map.mp (show x ∈ (p :: ps).map prP from hx)
    obtain ⟨y', _, rfl⟩ := List.mem_map.mp (show y ∈ (p :: ps).map prP from hy)
    exact alike_pr x' y'
  · intro x hx
    obtain ⟨x', _, rfl⟩ := List.mem_map.mp (show x ∈ (p :: ps).map prP from hx)
    exact fun e => nomatch e
  · have hi' : its[i]? = some v := by simpa using hi
    have hlt : i < xs.length := by rw [rv.length]; exact (List.getElem?_eq_some_iff.mp hi').1
    obtain ⟨w, hw, rw'⟩ := Vals.get rv (i := i) (x := xs[i]) (by simp)
    have e : w = v := Option.some.inj (hw.symm.trans hi')
    subst e
    obtain ⟨d, hd1, hd2⟩ := dpAll_at (i := i) (v := xs[i]) hd (by simp)
    rw [List.getElem?_map] at hd1
    cases ez : (p :: ps)[i]? with
    | none => rw [ez] at hd1; cases hd1
    | some z =>
      rw [ez] at hd1
      cases hd1
      obtain ⟨cs, hr2⟩ := Dp.reads I _ _ _ hd2 rw'
      have hz : z = minP p ps := by
        rw [minD_P] at hv
        exact reads_pair (reads_keeps hk hr2) hv
      subst hz
      exact ⟨xs[i], H, I.kept hk, rw', q i _ (by simp) ez⟩
def fMinP (ds : List D) (S : Sto) : Res D := match ds with
  | [d] => match seqD S d with
    | some (.lst, xs) => match pairsOf xs with
      | some (p :: ps) => .ok (prD (minP p ps)) S
      | _ => .bad
    | _ => .bad
  | _ => .bad
theorem isL_pr (ps : List (Int × Int)) : D.isL (ps.map prD) = true := by
  induction ps with
  | nil => rfl
  | cons p ps ih => rw [List.map_cons, D.isL, ih]; rfl
theorem pyL_pr : ∀ (ps : List (Int × Int)), D.pyL (ps.map prD) = ps.map prP
  | [] => rfl
  | p :: ps => by
    show D.py (prD p) :: D.pyL (ps.map prD) = _
    rw [pyL_pr ps]; rfl
theorem k_minP {X : Cx} : RLK X (rMinP X.K) fMinP := by
  intro H S F m xs ds Q E h r p
  unfold fMinP at p
  split at p
  · cases r with
    | cons a b =>
      cases b
      split at p
      · rename_i ys e1
        obtain ⟨l, vs, rfl, h1, rv, z⟩ := seq_lst h a e1
        split at p
        · rename_i q qs e2
          have e3 := pairs_eq e2
          subst e3
          refine ⟨l, vs, q, qs, rfl, .inl (.inl h1), ?_, fun i v hi hp => ?_⟩
          · rw [← pyL_pr]; exact dpL_of h.fz rv (isL_pr _)
          · obtain ⟨d, hd, rd⟩ := rv.getV hi
            rw [List.getElem?_map, hp] at hd
            cases hd
            exact p v H F m h (Ext.refl _ _ _) rd
        · exact p.elim
      · exact p.elim
  · exact p.elim
/-- the one or the other -/
def orB {α : Type} (f g : List D → Sto → Res α) (ds : List D) (S : Sto) : Res α := match f ds S with
  | .bad => g ds S
  | r => r
theorem k_orB {X : Cx} {r r' : List V → Hp → VK → Prop} {f f' : List D → Sto → Res D} (h : RLK X r f) (h' : RLK X r' f') : RLK X (fun xs H Q => r xs H Q ∨ r' xs H Q) (orB f f') := by
  intro H S F m xs ds Q E hs rr p
  unfold orB at p
  cases e : f ds S with
  | bad => rw [e] at p; exact .inr (h' H S F m xs ds Q E hs rr p)
  | ok a S1 => rw [e] at p; exact .inl (h H S F m xs ds Q E hs rr (by rw [e]; exact p))
  | exc a S1 => rw [e] at p; exact .inl (h H S F m xs ds Q E hs rr (by rw [e]; exact p))
theorem wp_minP {S : Sto} {p : Int × Int} {ps : List (Int × Int)} {Q : D → Sto → Prop} (q : Q (prD (minP p ps)) S) : WpE EX (fMinP [.lst ((p :: ps).map prD)] S) Q := by
  unfold fMinP
  dsimp only [seqD]
  rw [pairs_of]
  exact q
end DL

/-! DL: t[::-1] of a tuple. -/
namespace DL
open PySem PySem.Spec PyProof.Rows L2
section
variable {prog : Program} {w : World} {A : Around} {E : Value → Shared → Prop} {s : Shared}
theorem places_back (n : Nat) : Builtin.Slice.slicePlaces ((n : Int) - 1) (-1) (-1) = n := by
  unfold Builtin.Slice.slicePlaces
  have h1 : ¬ ((-1 : Int) > 0) := by decide
  have e : (- -1 : Int) = 1 := by decide
  simp only [h1, if_false, e, Int.ediv_one]
  split <;> omega
theorem applied_back {sl : Addr} {vl vu vs : Value} {n : Nat} {Q : Int × Int × Nat → Shared → Prop} (hs : s.heap.IsSliceOf sl vl vu vs) (pl : IsPart vl none) (pu : IsPart vu none) (pst : IsPart vs (some (-1)))
    (h : Q ((n : Int) - 1, -1, n) s) : wpAny (model prog w) A (Builtin.Slice.sliceApplied (.ref sl) (pure (n : Int))) Q E s := by
  obtain ⟨os, hos, hcs, hds⟩ := id hs
  unfold Builtin.Slice.sliceApplied Builtin.Slice.sliceFields
  refine wpAny_bind (wpAny_bind (wpAny_field hos hds (x := vl) rfl (wpAny_bind (wpAny_field hos hds (x := vu) rfl (wpAny_bind (wpAny_field hos hds (x := vs) rfl (wpAny_pure ?_)))))))
  refine wpAny_bind (HT.slicePart_ pst ?_)
  show wpAny _ _ (if ((-1 : Int) == 0) = true then _ else _) _ _ s
  rw [if_neg (by decide)]
  refine wpAny_bind (HT.slicePart_ pl (wpAny_bind (HT.slicePart_ pu (wpAny_bind (wpAny_pure ?_)))))
  show wpAny _ _ (pure ((n : Int) - 1, (-1 : Int), Builtin.Slice.slicePlaces ((n : Int) - 1) (-1) (-1))) _ _ s
  rw [places_back]
  exact wpAny_pure h
theorem fm_congr {α β : Type} {f g : α → Option β} : ∀ {l : List α}, (∀ x ∈ l, f x = g x) → l.filterMap f = l.filterMap g
  | [], _ => rfl
  | a :: l, h => by
    rw [List.filterMap_cons, List.filterMap_cons, h a (List.mem_cons_self ..), fm_congr (l := l) fun x hx => h x (List.mem_cons_of_mem _ hx)]
theorem pick_back (xs : Array Value) : ((List.range xs.size).filterMap fun (m : Nat) => xs[(((xs.size : Int) - 1) + (m : Int) * (-1)).toNat]?).toArray = xs.toList.reverse.toArray := by
  congr 1
  have e : ((List.range xs.size).filterMap fun (m : Nat) => xs[(((xs.size : Int) - 1) + (m : Int) * (-1)).toNat]?) = (List.range xs.size).filterMap fun m => xs.toList.reverse[m]? := by
    refine fm_congr fun m hm => ?_
    have hm' := List.mem_range.mp hm
    have e1 : (((xs.size : Int) - 1) + (m : Int) * (-1)).toNat = xs.size - 1 - m := by omega
    rw [e1, List.getElem?_reverse (by simpa using hm')]
    simp
  rw [e]
  have e2 : ∀ (l : List Value) (n : Nat), n = l.length → (List.range n).filterMap (fun m => l[m]?) = l := by
    intro l
    induction l with
    | nil => intro n h; subst h; rfl
    | cons a l ih =>
      intro n h
      subst h
      rw [List.length_cons, List.range_succ_eq_map, List.filterMap_cons]
      simp only [List.getElem?_cons_zero]
      rw [List.filterMap_map]
      congr 1
      exact ih _ rfl
  exact e2 _ _ (by simp)
theorem tuple_back {t sl : Addr} {items : Array Value} {vl vu vs : Value} {Q : Value → Shared → Prop} (ht : IsTup s.heap t items) (hs : s.heap.IsSliceOf sl vl vu vs) (pl : IsPart vl none) (pu : IsPart vu none) (pst : IsPart vs (some (-1)))
    (h : Q (.ref s.heap.objs.size) { s with heap := s.heap.push { cls := .type "tuple", data := .seq items.toList.reverse.toArray } })
    (hsz : items.size ≤ sizeLine) : wpAny (model prog w) A (getItem (.ref t) (.ref sl)) Q E s := by
  have htake : sizeOk (.seq items.toList.reverse.toArray) := by
    show items.toList.reverse.toArray.size ≤ sizeLine
    rw [List.size_toArray, List.length_reverse, Array.length_toList]
    exact hsz
  obtain ⟨os, hos, hcs, hds⟩ := id hs
  have hTs : s.TypeIs (.ref sl) "slice" := ⟨os, hos, hcs⟩
  unfold getItem
  try with_reducible refine wpAny_holding ?_
  first | refine wpAny_bind (wpAny_pure ?_) | skip
  refine wpAny_bind (wpAny_sequenceKey ht.typeIs (by decide) ?_)
  refine wpAny_bind (wpAny_callSpecial?_slot (name := Str.ofString "__getitem__") ht.typeIs PyProof.Rows.slot_tuple_getitem
    (wpAny_call_entry PyProof.Rows.slot_tuple_getitem ht.typeIs PyProof.Rows.entry_tuple_getitem ?_ (PyProof.Rows.args_tuple_getitem _ _)))
  show wpAny _ _ (Builtin.Tuple.tupleItemsOf (.ref t) >>= _) _ _ s
  refine wpAny_bind (PyProof.Rows.tupleItemsOf_ ht ?_)
  refine wpAny_bind (wpAny_typeOf hTs ?_)
  rw [if_pos (by decide)]
  refine wpAny_bind (applied_back hs pl pu pst ?_)
  have hno : ¬ ((((items.size : Int) - 1) == 0 && (-1 : Int) == 1 && items.size == items.size) = true) := by
    intro q
    rw [Bool.and_eq_true, Bool.and_eq_true] at q
    exact absurd q.1.2 (by decide)
  show wpAny _ _ (if (((items.size : Int) - 1) == 0 && (-1 : Int) == 1 && items.size == items.size) = true then _ else _) _ _ s
  rw [if_neg hno, pick_back]
  first
    | exact wpAny_bind (m := Builtin.Tuple.tupleExact _) (wpAny_newObj_type (wpAny_pure ⟨_, rfl, wpAny_pure h⟩) htake)
    | exact wpAny_bind (m := Builtin.Tuple.tupleExact _) (wpAny_newObj_type (wpAny_bind (wpAny_pure (wpAny_pure ⟨_, rfl, wpAny_pure h⟩))) htake)
    | exact wpAny_bind (wpAny_bind (m := Builtin.Tuple.tupleExact _) (wpAny_newObj_type (wpAny_pure (wpAny_pure ⟨_, rfl, wpAny_pure h⟩)) htake))
    | exact wpAny_bind (wpAny_bind (m := Builtin.Tuple.tupleExact _) (wpAny_newObj_type (wpAny_pure ⟨_, rfl, wpAny_pure h⟩) htake))
end
section
variable {X : Cx}
def tRevT (K : PySem.W.Frag) (te : TE) : TE := fun σ H Q => te σ H fun x H1 => ∃ a xs, x = .ref a ∧ SqT K H1 a xs ∧ ∀ p, H1 p = none → Q (.ref p) (upd H1 p (.tup xs.reverse))
theorem pe_revT {e : Expr} {te : TE} {k : Nat} {q1 q2 q3 pos : Pos} (he : PE X e te) : PE X (.Subscript e (.Slice none none (some (.UnaryOp .USub (.Constant (.int 1) k q1) q2)) q3) pos) (tRevT X.K te) := by
  refine ⟨fun pins s σ H Q I h => ?_⟩
  refine Subscript_ (thn (he.run pins s σ H _ I h) fun v s1 ⟨x, H1, I1, r1, y1⟩ => ?_)
  obtain ⟨a, xs, ex, hx, q⟩ := y1
  subst ex
  cases r1
  have hst : PO X (some (.UnaryOp .USub (.Constant (.int 1) k q1) q2)) (tPart (tUn (rU fun i => .int (-i)) (tC (.int 1)))) := po_some (pe_un un_neg pe_int)
  refine wpAny_Slice (thn (po_none.run pins s1 σ H1 (fun o H2 => o = none ∧ H2 = H1) I1 ⟨rfl, rfl⟩) fun vl s2 ⟨l, H2, I2, pl, el, e2⟩ => ?_)
  subst el e2
  refine thn (po_none.run pins s2 σ H2 (fun o H3 => o = none ∧ H3 = H2) I2 ⟨rfl, rfl⟩) fun vu s3 ⟨u, H3, I3, pu, eu, e3⟩ => ?_
  subst eu e3
  refine thn (hst.run pins s3 σ H3 (fun o H4 => o = some (-1) ∧ H4 = H3) I3 ⟨1, rfl, -1, rfl, rfl, rfl⟩) fun vs s4 ⟨o, H4, I4, pst, eo, e4⟩ => ?_
  subst eo e4
  have I5 : Inv X pins σ H4 { s4 with heap := s4.heap.push { cls := .type "slice", data := .fields #[vl, vu, vs] } } := I4.kept (t' := s4.toks) fun b ob q => Heap.get?_push_of_some _ q
  obtain ⟨its, r, ht, hz⟩ := I5.tuple hx
  have hlen := r.length
  show wpAny (model X.prog X.w) X.A (subscriptTail e (.Slice none none (some (.UnaryOp .USub (.Constant (.int 1) k q1) q2)) q3) (.ref a) (.ref s4.heap.objs.size)) (EP X pins σ Q) X.xe { s4 with heap := s4.heap.push { cls := .type "slice", data := .fields #[vl, vu, vs] } }
  refine tail_any (ops := [.ref a, .ref s4.heap.objs.size]) ht.typeIs (PyProof.Rows.slot_tuple_getitem.lookup) ?_ (by with_unfolding_all rfl)
  refine tuple_back ht (Heap.IsSliceOf.new _ vl vu vs) pl pu pst ?_ (by rw [List.size_toArray]; omega)
  refine ⟨.ref _, _, I5.laid (t' := s4.toks) (o := .tup xs.reverse) (fun b ob q => Heap.get?_push_of_some _ q) (Nat.le_refl _) ?_, rfl, q _ (I5.hok.fresh (Nat.le_refl _))⟩
  exact ⟨by rw [List.length_reverse]; exact hz, _, r.reverse, IsTup.new _ _⟩
def fRevT (d : D) (S : Sto) : Res D := match d with
  | .tup xs => .ok (.tup xs.reverse) S
  | _ => .bad
theorem de_revT {e : Expr} {ga : Ev D} {kk : Nat} {p1 p2 p3 pos : Pos} (ha : DE X e ga) : DE X (.Subscript e (.Slice none none (some (.UnaryOp .USub (.Constant (.int 1) kk p1) p2)) p3) pos) (dUn fRevT ga) := by
  refine ⟨fun W tk => ?_⟩
  obtain ⟨t, pt, rt⟩ := ha.ex W tk
  refine ⟨_, pe_revT pt, fun σ H ρ S F m Q sl h q => ?_⟩
  refine rt σ H ρ S F m _ sl h (Post.bind q fun d S1 v H1 F1 m1 h1 x1 r1 p1 => ?_)
  unfold fRevT at p1
  split at p1
  · cases r1 with
    | tup z f rv => exact ⟨_, _, rfl, .inl (.inl (h1.fz _ _ f)), fun a n => p1 _ _ _ _ (h1.froz n _) (h1.frozE n _) (.tup (by rw [List.length_reverse]; exact z) upd_same ((rv.le (h1.frozE n _).le).reverse))⟩
  · exact p1.elim
theorem fRevT_tup {xs : List D} {S : Sto} : fRevT (.tup xs) S = .ok (.tup xs.reverse) S := rfl
end
end DL

namespace DL
open PySem PySem.Spec PyProof.Rows L2
section
variable {P : Program} {w : World} {A : Around} {E : Value → Shared → Prop} {s : Shared}
theorem set_listI {l : Addr} {items : Array Value} (ns : List Int) {Q : Value → Shared → Prop} (hh : A.handled = none) (hl : s.heap.IsList l items) (hit : IntsAre items.toList ns) (hb : ns.length + 1 < scanBound)
    (h : ∀ (h' : Heap) (tk c : Nat), SetR w h' s.heap.objs.size (fun j => decide (j ∈ ns)) c → c ≤ ns.length → (∀ b o, s.heap.get? b = some o → h'.get? b = some o) → Q (.ref s.heap.objs.size) { s with heap := h', toks := tk }) :
    wpAny (model P w) A (call (.type "set") [.ref l]) Q E s := by
  have hisz : items.size = ns.length := by
    have q := IntsAre.length hit
    rw [Array.length_toList] at q
    exact q
  obtain ⟨c, tl, hmro⟩ := F.called_set.mro
  have hmade := F.called_set.made
  have hsub := F.called_set.sub
  refine wpAny_call (codeAny_of_tree ?_)
  show wpAny _ _ (callAny (.type "set") _) _ _ _
  refine wpAny_pure ⟨Code.quiet_builtin _ (by decide +kernel), codeAny_builtin F.entry_type_call ?_⟩
  rw [Around.under_plain (weight_type_call_type "set" [.ref l] []) rfl]
  have h1 := F.called_set.notType
  have h2 := F.called_set.canCreate
  have hct := F.typeCall_set_1 (.ref l)
  repeat (any_goals (first | assumption | wp_step))

  refine codeAny_mono (code_set_led1 (.ref l) (E := E) (Q₁ := fun obj s₁ => obj = .ref s.heap.objs.size ∧ s₁ = { s with heap := s.heap.push { cls := .type "set", dict := none, data := .set #[] 0 (.fresh 0 0 (!w.params.followText "set-order")) } }) ⟨rfl, rfl⟩) fun r s₁ hr => ?_
  cases r with
  | error e => exact hr
  | ok fl =>
    cases fl with
    | ret obj =>
      obtain ⟨rfl, rfl⟩ := hr
      have hS : (s.heap.push { cls := .type "set", dict := none, data := .set #[] 0 (.fresh 0 0 (!w.params.followText "set-order")) }).get? s.heap.objs.size = some { cls := .type "set", dict := none, data := .set #[] 0 (.fresh 0 0 (!w.params.followText "set-order")) } := Heap.get?_push_size _ rfl
      have hT : Shared.TypeIs { s with heap := s.heap.push { cls := .type "set", dict := none, data := .set #[] 0 (.fresh 0 0 (!w.params.followText "set-order")) } } (.ref s.heap.objs.size) "set" := ⟨_, hS, rfl⟩
      have hli := F.called_set.init.lookup
      have hbi := F.called_set.init.bind (.ref s.heap.objs.size)
      repeat (any_goals (first | assumption | wp_step))

      refine codeAny_mono (codeAny_call_builtin (R := wants (fun r s₂ => r = .none ∧ ∃ h' tk c, s₂ = { s with heap := h', toks := tk } ∧ SetR w h' s.heap.objs.size (fun j => decide (j ∈ ns)) c ∧ c ≤ ns.length ∧
          (∀ b o, s.heap.get? b = some o → h'.get? b = some o)) E) F.called_set.init.plain F.entry_set_init (check_set_init_1 hT ?_)) fun r₂ s₂ hr₂ => ?_
      · obtain ⟨ol, hol, hcl, nl, hdl⟩ := hl
        obtain ⟨ocls, odict, odata, oslots⟩ := ol
        simp only at hcl hdl
        subst hcl; subst hdl
        have hol' : (s.heap.push { cls := .type "set", dict := none, data := .set #[] 0 (.fresh 0 0 (!w.params.followText "set-order")) }).get? l = some { cls := .type "list", dict := odict, data := .seq items nl, slots := oslots } := Heap.get?_push_of_some _ hol
        have hsls := F.sub_list_set
        have hslf := F.sub_list_frozenset
        have hne : (Value.type "list" == Value.type "dict") = false := by decide
        have hl1 : (s.heap.push { cls := .type "set", dict := none, data := .set #[] 0 (.fresh 0 0 (!w.params.followText "set-order")) }).IsList l items := ⟨_, hol', rfl, nl, rfl⟩
        unfold Builtin.«set.__init__» noKeywords Builtin.Frozenset.updateFrom
        generalize hPI : pyIter = PI
        wp_walk
        subst hPI

        refine wpAny_pyIter_list hl1 ?_
        refine wpAny_bind (wpAny_runValue ?_)
        have hlS : l < s.heap.objs.size := Heap.lt_size hol
        have hh3 : A.in1.in1.in1.handled = none := by simp [hh]
        have hz1 : (s.heap.push { cls := .type "set", dict := none, data := .set #[] 0 (.fresh 0 0 (!w.params.followText "set-order")) }).objs.size = s.heap.objs.size + 1 := Heap.size_push ..
        have hneI : l ≠ (s.heap.push { cls := .type "set", dict := none, data := .set #[] 0 (.fresh 0 0 (!w.params.followText "set-order")) }).objs.size := by
          rw [Heap.size_push]; exact Nat.ne_of_lt (Nat.lt_succ_of_lt hlS)
        have hSf : s.heap.objs.size ∉ [(s.heap.push { cls := .type "set", dict := none, data := .set #[] 0 (.fresh 0 0 (!w.params.followText "set-order")) }).objs.size, l] := by
          rw [Heap.size_push]; simp only [List.mem_cons, List.mem_singleton, List.not_mem_nil, or_false, not_or]
          exact ⟨Nat.ne_of_lt (Nat.lt_succ_self _), Nat.ne_of_gt hlS⟩
        have hval : ∀ (i : Nat) (v : Value), items[i]? = some v → ∃ k t, ns[i]? = some k ∧ v = .int k t := fun i v hv => by
          have hi : i < ns.length := by rw [← hisz]; exact (Array.getElem?_eq_some_iff.mp hv).1
          obtain ⟨t, e⟩ := PyProof.Rows.IntsAre.int_at hit i v (by rw [Array.getElem?_toList]; exact hv)
          refine ⟨ns[i], t, List.getElem?_eq_getElem hi, ?_⟩
          rw [e, List.getD_eq_getElem?_getD, List.getElem?_eq_getElem hi] <;> rfl
        refine set_update_ints ((Walks.list hh3 _ l hneI items).toS) s.heap.objs.size
          hSf ns hisz hb hval (items.size - 0) 0 _ (by omega) (Nat.zero_le _)
          ⟨⟨_, Heap.get?_push_size _ rfl, rfl, rfl⟩, (hl1.push _)⟩ ?hS0 ?hR
        case hS0 =>
          have hget : ((s.heap.push { cls := .type "set", dict := none, data := .set #[] 0 (.fresh 0 0 (!w.params.followText "set-order")) }).push { cls := .type "list_iterator", data := .fields #[.ref l, .int 0 0] }).get? s.heap.objs.size
              = some { cls := .type "set", dict := none, data := .set #[] 0 (.fresh 0 0 (!w.params.followText "set-order")) } := Heap.get?_push_of_some _ hS
          exact ⟨0, Nat.le_refl 0, setR_new_at hget⟩
        case hR =>
          intro s' c' hm hc' hS'
          obtain ⟨h', g2, d', tk', os'⟩ := s'
          have eg : g2 = s.gens := hm.gens
          have ed : d' = s.drawn := hm.drawn
          have eo : os' = s.os := hm.os
          subst eg; subst ed; subst eo
          show wpAny _ _ _ _ _ _
          refine wpAny_pure ?_
          show wpAny _ _ (ret Value.none) _ _ _
          rw [hisz] at hc'
          refine wpAny_pure ⟨rfl, h', tk', c', rfl, hS', hc', fun b o e => ?_⟩
          have hb0 : b < s.heap.objs.size := Heap.lt_size e
          have hb1 : b ≠ s.heap.objs.size := Nat.ne_of_lt hb0
          have hb2 : b ≠ (s.heap.push { cls := .type "set", dict := none, data := .set #[] 0 (.fresh 0 0 (!w.params.followText "set-order")) }).objs.size := by
            rw [Heap.size_push]; exact Nat.ne_of_lt (Nat.lt_succ_of_lt hb0)
          exact hm.heap b o (by simp only [List.mem_cons, List.mem_singleton, List.not_mem_nil, or_false, not_or]; exact ⟨hb1, hb2⟩) (Heap.get?_push_of_some _ (Heap.get?_push_of_some _ e))

      · cases r₂ with
        | error e => exact hr₂
        | ok fl₂ =>
          cases fl₂ with
          | ret r =>
            obtain ⟨rfl, h', tk, c', rfl, hS', hc', hk'⟩ := hr₂
            repeat (any_goals (first | assumption | wp_step))
            exact h _ _ _ hS' hc' hk'
          | _ => exact hr₂.elim
    | _ => exact hr.elim

end
end DL

/-! DL: starred items, sorted(set(xs)). -/
namespace DL
open PySem PySem.Spec PyProof.Rows L2
/-! ### *e in a display -/
def fSpread (d : D) (S : Sto) : Res (List D) := match seqD S d with
  | some (_, xs) => .ok xs S
  | none => .bad
def dStar (a : Ev D) (r : Ev (List D)) : Ev (List D) := fun ρ S => (a ρ S).bind fun d S1 => (fSpread d S1).bind fun xs S2 => (r ρ S2).bind fun ds S3 => .ok (xs ++ ds) S3
section
variable {X : Cx} {e : Expr} {es : List Expr} {ga : Ev D} {gs : Ev (List D)} {p pos : Pos}
theorem da_star (ha : DE X e ga) (hr : DA X es gs) (hpe : ∀ {te : TE} {t : TA}, PE X e te → PA X es t → PA X (.Starred e p :: es) (StX.tStar X.K te t)) : DA X (.Starred e p :: es) (dStar ga gs) := by
  refine ⟨fun W tk => ?_⟩
  obtain ⟨ta, pa, ra⟩ := ha.ex W tk
  obtain ⟨tr, pr, rr⟩ := hr.ex W tk
  refine ⟨_, hpe pa pr, fun σ H ρ S F m Q sl h q => ?_⟩
  refine ra σ H ρ S F m _ sl h (Post.bind q fun d S1 v H1 F1 m1 h1 x1 r1 p1 => ?_)
  unfold fSpread at p1
  split at p1
  · rename_i k xs e1
    obtain ⟨a, vs, rfl, hq, rv, _⟩ := seq_any h1 r1 e1
    refine ⟨a, vs, rfl, hq.symm, ?_⟩
    refine rr σ H1 ρ S1 F1 m1 _ (sl.le x1.le) h1 (Post.bind p1 fun ds S2 ws H2 F2 m2 h2 x2 r2 p2 => ?_)
    exact p2 (vs ++ ws) H2 F2 m2 h2 (Ext.refl _ _ _) ((rv.le x2.le).append r2)
  · exact p1.elim
end
/-! ### sorted(set(xs)) -/
def insD (x : Int) : List Int → List Int
  | [] => [x]
  | y :: r => if x < y then x :: y :: r else if x = y then y :: r else y :: insD x r
def setI : List Int → List Int
  | [] => []
  | x :: r => insD x (setI r)
theorem mem_insD {x z : Int} : ∀ {l : List Int}, z ∈ insD x l ↔ z = x ∨ z ∈ l
  | [] => by simp [insD]
  | y :: r => by
    unfold insD
    split
    · simp
    · split
      · rename_i h; subst h; simp
      · rw [List.mem_cons, mem_insD (l := r), List.mem_cons]
        constructor
        · rintro (h | h | h)
          · exact .inr (.inl h)
          · exact .inl h
          · exact .inr (.inr h)
        · rintro (h | h | h)
          · exact .inr (.inl h)
          · exact .inl h
          · exact .inr (.inr h)
theorem mem_setI {z : Int} : ∀ {l : List Int}, z ∈ setI l ↔ z ∈ l
  | [] => by simp [setI]
  | x :: r => by unfold setI; rw [mem_insD, mem_setI (l := r), List.mem_cons]
theorem insD_sorted {x : Int} : ∀ {l : List Int}, l.Pairwise (· < ·) → (insD x l).Pairwise (· < ·)
  | [], _ => by simp [insD]
  | y :: r, h => by
    have h' := List.pairwise_cons.mp h
    unfold insD
    split
    · rename_i hx
      refine List.pairwise_cons.mpr ⟨fun z hz => ?_, h⟩
      rcases List.mem_cons.mp hz with e | e
      · rw [e]; exact hx
      · exact Int.lt_trans hx (h'.1 z e)
    · split
      · exact h
      · rename_i h1 h2
        refine List.pairwise_cons.mpr ⟨fun z hz => ?_, insD_sorted h'.2⟩
        rcases mem_insD.mp hz with e | e
        · rw [e]; omega
        · exact h'.1 z e
theorem setI_sorted : ∀ (l : List Int), (setI l).Pairwise (· < ·)
  | [] => List.Pairwise.nil
  | x :: r => insD_sorted (setI_sorted r)
theorem strict_eq : ∀ {as bs : List Int}, as.Pairwise (· < ·) → bs.Pairwise (· < ·) → (∀ z, z ∈ as ↔ z ∈ bs) → as = bs
  | [], [], _, _, _ => rfl
  | [], b :: bs, _, _, h => by have := (h b).mpr (List.mem_cons_self ..); cases this
  | a :: as, [], _, _, h => by have := (h a).mp (List.mem_cons_self ..); cases this
  | a :: as, b :: bs, ha, hb, h => by
    have ha1 := List.pairwise_cons.mp ha
    have hb1 := List.pairwise_cons.mp hb
    have e : a = b := by
      rcases List.mem_cons.mp ((h a).mp (List.mem_cons_self ..)) with z | z
      · exact z
      · rcases List.mem_cons.mp ((h b).mpr (List.mem_cons_self ..)) with y | y
        · exact y.symm
        · have := ha1.1 b y
          have := hb1.1 a z
          omega
    subst e
    rw [strict_eq ha1.2 hb1.2 fun z => ?_]
    constructor
    · intro hz
      rcases List.mem_cons.mp ((h z).mp (List.mem_cons_of_mem _ hz)) with y | y
      · have := ha1.1 z hz; omega
      · exact y
    · intro hz
      rcases List.mem_cons.mp ((h z).mpr (List.mem_cons_of_mem _ hz)) with y | y
      · have := hb1.1 z hz; omega
      · exact y
def rSetL (K : PySem.W.Frag) (w : World) : List V → Hp → VK → Prop := fun vs H Q => ∃ (a : Addr) (ns : List Int), vs = [V.ref a] ∧ SqL K H a (ns.map V.int) ∧ ns.length < 1000 ∧
  ∀ p c, H p = none → c ≤ ns.length → Q (.ref p) (upd H p (SetO w p (fun j => decide (j ∈ ns)) c))
theorem cr_setL {X : Cx} (hc : X.calm = true) : CallR X (.type "set") (rSetL X.K X.w) := by
  intro pins s σ H vs us Q I r h
  obtain ⟨a, ns, rfl, hs, hl, q⟩ := h
  obtain ⟨its, rv, pl, _⟩ := I.list hs
  obtain ⟨u, rfl, ru⟩ := vals1 r
  obtain rfl : u = Value.ref a := ru
  refine set_listI ns (I.ok.hd hc) pl.isList (ints_of_vals rv) (by unfold scanBound; omega) fun h' tk c R1 hcn k => ?_
  exact ⟨.ref s.heap.objs.size, _, I.laid (t' := tk) k (Nat.le_refl _) (setO_new R1), rfl, q _ c (I.hok.fresh (Nat.le_refl _)) hcn⟩
def fSortSet (d : D) (S : Sto) : Res (List D) := match lintsOf S d with
  | some ns => if ns.length < 64 then .ok ((setI ns).map .int) S else .bad
  | none => .bad
def dSortSet (a : Ev D) : Ev (List D) := fun ρ S => (a ρ S).bind fSortSet
theorem dn_sortSet {X : Cx} {k : Nat} {e : Expr} {ga : Ev D} {p p2 pos pos2 : Pos} (ok : XOk X k) (ha : DE X e ga)
    (hpe : ∀ {te : TE} {r1 r2}, PE X e te → CallR X (.type "set") r1 → CallR X (.builtin "sorted") r2 → PE X (.Call (.Name "sorted" p) [.Call (.Name "set" p2) [e] [] pos2] [] pos) (tCB r2 (tCons (tCB r1 (tCons te tNil)) tNil))) :
    DN X (.Call (.Name "sorted" p) [.Call (.Name "set" p2) [e] [] pos2] [] pos) (dSortSet ga) := by
  refine ⟨fun W tk => ?_⟩
  obtain ⟨ta, pa, ra⟩ := ha.ex W tk
  refine ⟨_, hpe pa (cr_setL ok.calm) (cr_sortedSet ok.calm), fun σ H ρ S F m Q sl h q => ?_⟩
  refine ra σ H ρ S F m _ sl h (Post.bindN q fun d S1 v H1 F1 m1 h1 x1 r1 p1 => ?_)
  unfold fSortSet at p1
  split at p1
  · rename_i ns e1
    obtain ⟨a, rfl, hq, _⟩ := lints_ok h1 r1 e1
    split at p1
    · rename_i hl
      refine ⟨a, ns, rfl, hq, by omega, fun b c hb hc => ?_⟩
      refine ⟨b, _, c, rfl, upd_same, by omega, fun ns' p' hp hm hn hfree => ?_⟩
      have e2 : ns' = setI ns := strict_eq hp (setI_sorted ns) fun z => by rw [hm z, mem_setI]; simp
      subst e2
      obtain ⟨h2, x2⟩ := h1.lay hb (SetO X.w b (fun j => decide (j ∈ ns)) c)
      exact new_n h2 (rep_ints _) (by rw [List.length_map, hn]; exact line_le (by omega)) (PostN.later x2 p1) p' hfree
    · exact p1.elim
  · exact p1.elim
end DL

/-! DL: sorted(s) of a set of ints of some size. -/
namespace DL
open PySem PySem.Spec PyProof.Rows L2
section
variable {P : Program} {w : World} {A : Around} {E : Value → Shared → Prop} {s : Shared} {a : Addr}
theorem sorted_setB {S : Int → Bool} {n : Nat} {Q : Value → Shared → Prop} (R : SetR w s.heap a S n) (hh : A.handled = none) (hn : n < 4096)
    (hQ : ∀ t p (out : Array Value) (c : Nat) (ns : List Int), (∀ b o, s.heap.get? b = some o → t.heap.get? b = some o) → t.gens = s.gens → t.os = s.os → s.heap.objs.size ≤ p →
      t.heap.get? p = some (seqObj "list" out c) → IntsAre out.toList ns → ns.Pairwise (· < ·) → (∀ k, k ∈ ns ↔ S k = true) → ns.length = n → Q (.ref p) t) :
    wpAny (model P w) A (call (.builtin "sorted") [.ref a]) Q E s := by
  obtain ⟨ob, ents, epo, tab, r1, r2, r3, r4, r5, r6, r7, r8, r9, r10, r11⟩ := R
  refine Calls.call_function_entry kind_sorted plain_sorted entry_sorted (args_sorted1 _) ?_
  unfold Builtin.«sorted»
  refine wpAny_bind (m := checkCount "sorted" 1 1 _) (wpAny_pure ?_)
  refine wpAny_bind (collect_set (A := A.in1) hh ⟨ob, r1, r2.1, r3⟩ r8 r7 r10 r11 fun s1 us k1 hz1 g1 o1 pm => ?_)
  have len1 : us.length = n := by rw [pm.length_eq, List.length_map, Array.length_toList]; exact r9
  have ints1 : IntsAre us (us.map Builtin.Re.reRawOf) := L2.ints_of us fun v hv => by
    obtain ⟨en, hen, eq1⟩ := List.mem_map.mp (pm.mem_iff.mp hv)
    obtain ⟨k, tk, h1, _⟩ := r4 en hen
    exact ⟨k, tk, eq1 ▸ h1⟩
  have perm1 : (us.map Builtin.Re.reRawOf).Perm (ents.toList.map L2.keyOf) := by
    have z := pm.map Builtin.Re.reRawOf
    rwa [List.map_map] at z
  refine wpAny_bind (wpAny_newList ?_ (by rw [len1, sizeLine_eq]; omega))
  have at1 : (s1.heap.push (seqObj "list" us.toArray 0)).get? s1.heap.objs.size = some (seqObj "list" us.toArray 0) := Heap.get?_push_size _ rfl
  have small : us.length ≤ sizeLine := by rw [len1, sizeLine_eq]; omega
  refine wpAny_bind (wpAny_holding (wpAny_call_entry slot_list_sort ⟨_, at1, rfl⟩ entry_list_sort (list_sort_treeAny at1 ints1 small fun out ms b1 b2 b3 => ⟨_, rfl, ?_⟩) (args_list_sort _)))
  obtain ⟨c, hc⟩ := sortedHeap_at (vs := us) (out := out) at1
  have perm2 : ms.Perm (ents.toList.map L2.keyOf) := b2.trans perm1
  have strict : ms.Pairwise (· < ·) := lt_of_le_nodup ms b3 (perm2.nodup_iff.mpr r5)
  have lenm : ms.length = n := by rw [perm2.length_eq, List.length_map, Array.length_toList]; exact r9
  refine wpAny_pure ⟨_, rfl, hQ _ s1.heap.objs.size out c ms (fun b u e => ?_) g1 o1 hz1 hc b1 strict (fun k => by rw [perm2.mem_iff, ← r6 k]) lenm⟩
  have q := k1 b u e
  have lt1 := Heap.lt_size q
  show (sortedHeap (s1.heap.push (seqObj "list" us.toArray 0)) s1.heap.objs.size us out).get? b = some u
  rw [sortedHeap_old (Nat.ne_of_lt lt1) (by rw [size_push']; exact Nat.lt_succ_of_lt lt1)]
  exact Heap.get?_push_of_some _ q
end
def rSortedSetB (w : World) : List V → Hp → VK → Prop := fun vs H Q => ∃ (a : Addr) (S : Int → Bool) (n : Nat), vs = [V.ref a] ∧ H a = some (SetO w a S n) ∧ n < 4096 ∧
  ∀ (ns : List Int) (p : Addr), ns.Pairwise (· < ·) → (∀ k : Int, k ∈ ns ↔ S k = true) → ns.length = n → H p = none → Q (.ref p) (upd H p (.lst (ns.map V.int)))
theorem cr_sortedSetB {X : Cx} (hc : X.calm = true) : CallR X (.builtin "sorted") (rSortedSetB X.w) := by
  intro pins s σ H vs us Q I r h
  obtain ⟨a, S, n, rfl, ha, hn, q⟩ := h
  have R := setO_get I ha
  rw [Vals.ref1 r]
  refine sorted_setB R (I.ok.hd hc) hn fun t p out c ns k g o hp hg hi hs hm hl => ?_
  have line : (ns.map V.int).length ≤ sizeLine := by rw [List.length_map, hl, sizeLine_eq]; omega
  have fresh : H p = none := I.hok.fresh hp
  have J : Inv X pins σ (upd H p (.lst (ns.map V.int))) { s with heap := t.heap, gens := t.gens, drawn := t.drawn, toks := t.toks } :=
    I.call (ch := []) (Un.laid k hp fresh) (I.hok.laid k hp ⟨line, out.toList, c, vals_of_ints hi, hg⟩) (by rw [g]; exact I.bare) (fun _ z => nomatch z)
  have same : t = { s with heap := t.heap, gens := t.gens, drawn := t.drawn, toks := t.toks } := by
    cases t; cases s; cases o; rfl
  rw [same]
  exact ⟨.ref p, _, J, rfl, q ns p hs hm hl fresh⟩
end DL

/-! DL: sum, max, min of a tuple of ints. -/
namespace DL
open PySem PySem.Spec PyProof.Rows L2 PySem.W
variable {EX : XP} {ES : XPs}
section
variable {prog : Program} {w : World} {A : Around} {E : Value → Shared → Prop} {s : Shared} {l : Addr} {xs : Array (Int × Tok)}
theorem sum_tupleG {Q : Value → Shared → Prop} (hh : A.handled = none) (hl : s.heap.IsTuple l (intItems xs))
    (h : ∀ h' tk t', (∀ b o, s.heap.get? b = some o → h'.get? b = some o) → Q (.int (preSum (numAt xs) xs.size) t') { s with heap := h', toks := tk }) :
    wpAny (model prog w) A (call (.builtin "sum") [.ref l]) Q E s := by
  have hlt : l < s.heap.objs.size := by obtain ⟨_, e, _⟩ := hl; exact Heap.lt_size e
  refine call_sum_walkG (wpAny_pyIter_tuple hl ?_)
  refine ⟨_, [s.heap.objs.size, l], [s.heap.objs.size], _, _, _, numAt xs, rfl, Walks.tuple (A := A.in1) hh _ l (Nat.ne_of_lt hlt) (intItems xs), ⟨⟨_, Heap.get?_push_size _ rfl, rfl, rfl⟩, hl.push _⟩, fun b hb => ?_, fun _ _ => intItems_at, fun h' tk t' hk => ?_⟩
  · show b < (s.heap.push _).objs.size
    rw [Heap.size_push]
    simp only [List.mem_cons, List.not_mem_nil, or_false] at hb
    rcases hb with z | z
    · rw [z]; exact Nat.lt_succ_self _
    · rw [z]; exact Nat.lt_succ_of_lt hlt
  · have := h h' tk t' fun b o e => hk b o (fun m => by
      have e2 := Heap.lt_size e
      rw [List.mem_singleton.mp m] at e2
      exact Nat.lt_irrefl _ e2) (Heap.get?_push_of_some _ e)
    simpa [intItems] using this
end
def rSumT (K : PySem.W.Frag) : List V → Hp → VK → Prop := fun vs H Q => ∃ (a : Addr) (ns : List Int), vs = [V.ref a] ∧ SqT K H a (ns.map V.int) ∧ Q (.int ns.sum) H
theorem cr_sumT {X : Cx} (hc : X.calm = true) : CallR X (.builtin "sum") (rSumT X.K) := by
  intro pins s σ H vs us Q I r h
  obtain ⟨a, ns, rfl, hs, q⟩ := h
  obtain ⟨its, rv, hl, _⟩ := I.tuple hs
  obtain ⟨u, rfl, ru⟩ := vals1 r
  obtain rfl : u = Value.ref a := ru
  have hi := rv.ints
  obtain ⟨xs, e⟩ := hi.allInts.items
  have hn : numsOf (intItems xs).toList = ns := by rw [← e]; exact hi.numsOf
  rw [nums_intItems] at hn
  have hl' : s.heap.IsTuple a its.toArray := hl
  rw [e] at hl'
  refine sum_tupleG (I.ok.hd hc) hl' fun h' tk t' hk => ?_
  rw [preSum_eq, List.take_of_length_le (by simp), hn]
  exact ⟨.int _, H, I.kept hk, ⟨_, rfl⟩, q⟩
theorem maxI_fold : ∀ (ns : List Int) (n : Int), maxI n ns = ns.foldl max n
  | [], _ => rfl
  | k :: ns, n => by
    show maxI (if n < k then k else n) ns = ns.foldl max (max n k)
    rw [maxI_fold ns]
    congr 1
    omega
theorem minI_fold : ∀ (ns : List Int) (n : Int), minI n ns = ns.foldl min n
  | [], _ => rfl
  | k :: ns, n => by
    show minI (if k < n then k else n) ns = ns.foldl min (min n k)
    rw [minI_fold ns]
    congr 1
    omega
def rExT (mx : Bool) (K : PySem.W.Frag) : List V → Hp → VK → Prop := fun vs H Q => ∃ (a : Addr) (n : Int) (ns : List Int), vs = [V.ref a] ∧ SqT K H a ((n :: ns).map V.int) ∧ Q (.int (if mx then maxI n ns else minI n ns)) H
theorem dpInts {K : PySem.W.Frag} {H : Hp} : ∀ (ns : List Int), DpAll K H (ns.map V.int) (ns.map .int)
  | [] => .nil
  | n :: ns => .cons (.int n) (dpInts ns)
theorem depth_ints : ∀ (ns : List Int), PyData.depthAll (ns.map .int) = 0
  | [] => rfl
  | n :: ns => by
    show max _ (PyData.depthAll (ns.map .int)) = 0
    rw [depth_ints ns]; rfl
theorem alike_ints (ns : List Int) : AlikeAll (ns.map .int) := by
  refine ⟨fun x hx y hy => ?_, fun x hx e => ?_⟩
  · obtain ⟨x', _, rfl⟩ := List.mem_map.mp hx
    obtain ⟨y', _, rfl⟩ := List.mem_map.mp hy
    simp [PySem.W.alike]
  · obtain ⟨x', _, rfl⟩ := List.mem_map.mp hx
    exact nomatch e
theorem reads_int {h : Heap} {v : Value} {i : Int} {as : List Addr} (r : Reads h v (.int i) as) : ∃ t, v = .int i t := by
  cases r with
  | int _ t => exact ⟨t, rfl⟩
theorem cr_exT {X : Cx} {k : Nat} (ok : XOk X k) (mx : Bool) : CallR X (.builtin (if mx then "max" else "min")) (rExT mx X.K) := by
  intro pins s σ H vs us Q I r h
  obtain ⟨a, n, ns, rfl, hs, q⟩ := h
  obtain ⟨its, rv, hl, _⟩ := I.tuple hs
  obtain ⟨u, rfl, ru⟩ := vals1 r
  obtain rfl : u = Value.ref a := ru
  obtain ⟨as, hr⟩ := Dp.readsAll I _ _ _ (dpInts (n :: ns)) rv
  have hun := ok.room.units
  have hdp := depth_ints (n :: ns)
  have hl' : s.heap.IsTuple a its.toArray := hl
  cases mx with
  | true =>
    refine max_tuple_data (x := .int n) (xs := ns.map .int) (I.ok.hd ok.calm) hl' (as := as) (by simpa using hr) (alike_ints (n :: ns)) (by show X.A.units + 1 + PyData.depthAll ((n :: ns).map .int) < cLine; omega) fun i v h' tk bs hi hv hk => ?_
    rw [maxD_ints] at hv
    obtain ⟨t, rfl⟩ := reads_int hv
    refine ⟨.int _, H, I.kept hk, ⟨_, rfl⟩, ?_⟩
    rw [← maxI_fold]; exact q
  | false =>
    refine min_tuple_data (x := .int n) (xs := ns.map .int) (I.ok.hd ok.calm) hl' (as := as) (by simpa using hr) (alike_ints (n :: ns)) (by show X.A.units + 1 + PyData.depthAll ((n :: ns).map .int) < cLine; omega) fun i v h' tk bs hi hv hk => ?_
    rw [minD_ints] at hv
    obtain ⟨t, rfl⟩ := reads_int hv
    refine ⟨.int _, H, I.kept hk, ⟨_, rfl⟩, ?_⟩
    rw [← minI_fold]; exact q
def tintsOf (d : D) : Option (List Int) := match d with
  | .tup xs => intsOf xs
  | .tupZ xs => intsOf xs
  | _ => none
theorem tints_ok {K : PySem.W.Frag} {H F : Hp} {S : Sto} {m : List Addr} {d : D} {v : V} {ns : List Int} (h : HSt K H S F m) (r : Rep K F m d v) (e : tintsOf d = some ns) : ∃ a, v = .ref a ∧ SqT K H a (ns.map .int) := by
  unfold tintsOf at e
  split at e
  · cases r with
    | tup z f rv =>
      obtain ⟨rfl, rfl⟩ := ints_rep rv e
      exact ⟨_, rfl, .inl (.inl (h.fz _ _ f))⟩
  · cases r with
    | tupZ z f rv =>
      obtain ⟨rfl, rfl⟩ := ints_rep rv e
      obtain ⟨o, f, _⟩ := f
      exact ⟨_, rfl, .inl (.inr ⟨o, h.fz _ _ f⟩)⟩
  · cases e
def fSumT (ds : List D) (S : Sto) : Res D := match ds with
  | [d] => match tintsOf d with
    | some ns => .ok (.int ns.sum) S
    | none => .bad
  | _ => .bad
def fExT (mx : Bool) (ds : List D) (S : Sto) : Res D := match ds with
  | [d] => match tintsOf d with
    | some (n :: ns) => .ok (.int (if mx then maxI n ns else minI n ns)) S
    | _ => .bad
  | _ => .bad
theorem k_sumT {X : Cx} : RLK X (rSumT X.K) fSumT := by
  intro H S F m xs ds Q E h r p
  unfold fSumT at p
  split at p
  · cases r with
    | cons a b =>
      cases b
      split at p
      · rename_i ns e
        obtain ⟨l, rfl, h1⟩ := tints_ok h a e
        exact ⟨l, ns, rfl, h1, p _ H F m h (Ext.refl _ _ _) (.int _)⟩
      · exact p.elim
  · exact p.elim
theorem k_exT {X : Cx} {mx : Bool} : RLK X (rExT mx X.K) (fExT mx) := by
  intro H S F m xs ds Q E h r p
  unfold fExT at p
  split at p
  · cases r with
    | cons a b =>
      cases b
      split at p
      · rename_i n ns e
        obtain ⟨l, rfl, h1⟩ := tints_ok h a e
        exact ⟨l, n, ns, rfl, h1, p _ H F m h (Ext.refl _ _ _) (.int _)⟩
      · exact p.elim
  · exact p.elim
section
variable {S : Sto} {ρ : DEnv}
theorem wp_star {a : Ev D} {r : Ev (List D)} {Q : List D → Sto → Prop} : WpE EX (dStar a r ρ S) Q = WpE EX (a ρ S) fun d S1 => WpE EX (fSpread d S1) fun xs S2 => WpE EX (r ρ S2) fun ds S3 => Q (xs ++ ds) S3 := by
  unfold dStar; rw [wp_bind]; congr 1; funext d S1; rw [wp_bind]; congr 1; funext xs S2; rw [wp_bind]; rfl
theorem spread_lst {xs : List D} : fSpread (.lst xs) S = .ok xs S := rfl
theorem spread_tup {xs : List D} : fSpread (.tup xs) S = .ok xs S := rfl
theorem wp_sortSet {a : Ev D} {Q : List D → Sto → Prop} : WpE EX (dSortSet a ρ S) Q = WpE EX (a ρ S) fun d S1 => WpE EX (fSortSet d S1) Q := wp_bind
theorem sortSet_ok {ns : List Int} {Q : List D → Sto → Prop} (h : ns.length < 64) (q : Q ((setI ns).map .int) S) : WpE EX (fSortSet (.lst (ns.map .int)) S) Q := by
  have e : lintsOf S (.lst (ns.map .int)) = some ns := ints_of ns
  unfold fSortSet
  rw [e]
  dsimp only
  rw [if_pos h]; exact q
theorem wp_sumT {ns : List Int} {Q : D → Sto → Prop} (q : Q (.int ns.sum) S) : WpE EX (orB fSum fSumT [.tup (ns.map .int)] S) Q := by
  unfold orB
  have e : fSum [.tup (ns.map .int)] S = .bad := rfl
  rw [e]
  unfold fSumT tintsOf
  dsimp only
  rw [ints_of]; exact q
end
end DL

/-! DL: for a, b in zip(x, y): both lists or both tuples. -/
namespace DL
open PySem PySem.Spec PyProof.Rows L2
def zipD (xs ys : List D) : List D := (xs.zip ys).map fun p => .tup [p.1, p.2]
def fZip (ds : List D) (S : Sto) : Res (List D) := match ds with
  | [.lst xs, .lst ys] => .ok (zipD xs ys) S
  | [.tup xs, .tup ys] => .ok (zipD xs ys) S
  | _ => .bad
def dZip (gs : Ev (List D)) : Ev (List D) := fun ρ S => (gs ρ S).bind fZip
theorem zip_len (xs ys : List D) : (zipD xs ys).length = min xs.length ys.length := by unfold zipD; simp
theorem zip_at {xs ys : List D} {i : Nat} {x y : D} (h1 : xs[i]? = some x) (h2 : ys[i]? = some y) : (zipD xs ys)[i]? = some (.tup [x, y]) := by
  unfold zipD
  rw [List.getElem?_map]
  have e : (xs.zip ys)[i]? = some (x, y) := by rw [List.getElem?_zip_eq_some]; exact ⟨h1, h2⟩
  rw [e]; rfl
section
variable {X : Cx} {K : PySem.W.Frag} {e e2 : Expr} {es elts : List Expr} {kk : Nat} {p pos tpos : Pos} {gs : Ev (List D)} {k : Nat}
theorem wk_zipL {a b : Addr} {xs ys : List D} {vs ws : List V} {H0 F : Hp} {m : List Addr} (hq : SqL K F a vs) (hr : SqL K F b ws) (r : RepL K F m xs vs) (q : RepL K F m ys ws) (z : xs.length ≤ sizeLine) : Walks K (Itz K a b) (zipD xs ys) H0 F m where
  go := fun i H S F' m' hi x h => by
    rw [zip_len] at hi
    exact ⟨vs, ws, vs[i]'(by rw [← r.length]; omega), ws[i]'(by rw [← q.length]; omega), sqL_le h.fz (sqL_le x.f hq), sqL_le h.fz (sqL_le x.f hr), by simp, by simp⟩
  stop := fun i H S F' m' hi x h => by
    rw [zip_len] at hi
    exact ⟨vs, ws, sqL_le h.fz (sqL_le x.f hq), sqL_le h.fz (sqL_le x.f hr), by rw [← r.length, ← q.length]; omega⟩
  len := by rw [zip_len]; omega
  yld := fun i H S F' m' v H' hi x h y => by
    obtain ⟨T, v1, v2, rfl, hT, rfl, y1, y2⟩ := y
    obtain ⟨d1, e1, r1⟩ := r.getV (y1 vs (sqL_le h.fz (sqL_le x.f hq)))
    obtain ⟨d2, e2, r2⟩ := q.getV (y2 ws (sqL_le h.fz (sqL_le x.f hr)))
    exact ⟨_, .tup [d1, d2], h.froz hT _, h.frozE hT _, zip_at e1 e2, .tup (by show 2 ≤ sizeLine; decide) upd_same (.cons (r1.le (x.le.trans (h.frozE hT _).le)) (.cons (r2.le (x.le.trans (h.frozE hT _).le)) .nil))⟩
theorem wk_zipT {a b : Addr} {xs ys : List D} {vs ws : List V} {H0 F : Hp} {m : List Addr} (hq : SqT K F a vs) (hr : SqT K F b ws) (r : RepL K F m xs vs) (q : RepL K F m ys ws) (z : xs.length ≤ sizeLine) : Walks K (RZ.ItzT K a b) (zipD xs ys) H0 F m where
  go := fun i H S F' m' hi x h => by
    rw [zip_len] at hi
    exact ⟨vs, ws, vs[i]'(by rw [← r.length]; omega), ws[i]'(by rw [← q.length]; omega), sqT_le h.fz (sqT_le x.f hq), sqT_le h.fz (sqT_le x.f hr), by simp, by simp⟩
  stop := fun i H S F' m' hi x h => by
    rw [zip_len] at hi
    exact ⟨vs, ws, sqT_le h.fz (sqT_le x.f hq), sqT_le h.fz (sqT_le x.f hr), by rw [← r.length, ← q.length]; omega⟩
  len := by rw [zip_len]; omega
  yld := fun i H S F' m' v H' hi x h y => by
    obtain ⟨T, v1, v2, rfl, hT, rfl, y1, y2⟩ := y
    obtain ⟨d1, e1, r1⟩ := r.getV (y1 vs (sqT_le h.fz (sqT_le x.f hq)))
    obtain ⟨d2, e2, r2⟩ := q.getV (y2 ws (sqT_le h.fz (sqT_le x.f hr)))
    exact ⟨_, .tup [d1, d2], h.froz hT _, h.frozE hT _, zip_at e1 e2, .tup (by show 2 ≤ sizeLine; decide) upd_same (.cons (r1.le (x.le.trans (h.frozE hT _).le)) (.cons (r2.le (x.le.trans (h.frozE hT _).le)) .nil))⟩
theorem di_zip (hg : Gl X "zip") (hm : X.mg "zip" = none) (ha : DA X [e, e2] gs) (hs : starEach [e, e2] X.env = (false, eval e X.env) :: starEach [e2] X.env := by rfl) (hpl : (backTo pos (starEach [e2] X.env)).any (·.1) = false := by rfl) :
    DI X (.Tuple elts kk tpos) (.Call (.Name "zip" p) [e, e2] [] pos) (dZip gs) := by
  refine ⟨fun W tk => ?_⟩
  obtain ⟨t, pt, rt⟩ := ha.ex W tk
  refine ⟨_, RZ.pi_zipA hg hm pt hs hpl, fun σ H ρ S F m R sl h q => ?_⟩
  refine rt σ H ρ S F m _ sl h ?_
  unfold dZip at q
  cases eg : gs ρ S with
  | bad => rw [eg] at q; exact q.elim
  | exc y S1 => rw [eg] at q; exact q
  | ok ds S1 =>
    rw [eg] at q
    intro vs H1 F1 m1 h1 x1 r1
    dsimp only [Res.bind] at q
    unfold fZip at q
    split at q
    · rename_i q' e1
      split at e1
      · rename_i xs ys
        cases e1
        cases r1 with
        | cons a b => cases b with
          | cons b c =>
            cases c
            cases a with
            | lst z f rv => cases b with
              | lst z2 f2 rv2 => exact ⟨_, _, _, _, rfl, .inl ⟨.inl (.inl (h1.fz _ _ f)), .inl (.inl (h1.fz _ _ f2)), q _ H1 F1 m1 h1 x1 (wk_zipL (.inl (.inl f)) (.inl (.inl f2)) rv rv2 z)⟩⟩
      · rename_i xs ys
        cases e1
        cases r1 with
        | cons a b => cases b with
          | cons b c =>
            cases c
            cases a with
            | tup z f rv => cases b with
              | tup z2 f2 rv2 => exact ⟨_, _, _, _, rfl, .inr ⟨.inl (.inl (h1.fz _ _ f)), .inl (.inl (h1.fz _ _ f2)), q _ H1 F1 m1 h1 x1 (wk_zipT (.inl (.inl f)) (.inl (.inl f2)) rv rv2 z)⟩⟩
      · cases e1
    · rename_i q' e1
      split at e1 <;> cases e1
    · exact q.elim
end
end DL

/-! DL: xs.count(y) of flat items. -/
namespace DL
open PySem PySem.Spec PyProof.Rows L2
section
variable {X : Cx}
theorem cnt_eqU {x : V} : ∀ {xs : List V} {us : List Value}, Vals xs us → xs.all flatV = true → us.countP (eqU x) = xs.countP fun y => eqV y x
  | _, _, .nil, _ => rfl
  | _, _, .cons r q, h => by
    rw [List.all_cons, Bool.and_eq_true] at h
    rw [List.countP_cons, List.countP_cons, cnt_eqU q h.2, eqU_of r h.1]
def rCntF (K : PySem.W.Frag) : RM := fun x xs H Q => ∃ (p : Addr) (ys : List V) (y : V), x = .ref p ∧ xs = [y] ∧ SqL K H p ys ∧ flatV y = true ∧ ys.all flatV = true ∧ Q (.int ((ys.countP fun z => eqV z y : Nat) : Int)) H
theorem mt_countF : MtR X "list.count" (rCntF X.K) := by
  intro pins s σ H x xs v us Q I rx rxs h
  obtain ⟨p, ys, y, rfl, rfl, hs, fy, fys, q⟩ := h
  cases rx
  obtain ⟨u, rfl, ru⟩ := rxs.one
  obtain ⟨its, rv, ⟨⟨cls, dd, data, sl⟩, n, ho, hc, hdn, hd⟩, hlen⟩ := I.list hs
  simp only at hc hd
  subst hc hd
  refine call_meets PySem.F.slot_list_count ⟨_, ho, rfl⟩ PySem.F.entry_list_count (PySem.F.args_list_count_2 _ _) (SeqAt.list_countAt p its.toArray n dd sl u (eqU y)) ⟨ho, fun z hz => mem_eqAt ru fy rv fys z (by simpa using hz), ?_⟩
  have ec : its.toArray.toList.countP (eqU y) = ys.countP fun z => eqV z y := cnt_eqU rv fys
  exact ⟨.int ((ys.countP fun z => eqV z y : Nat) : Int), H, I.tok _, ⟨s.toks, by rw [← ec]⟩, q⟩
def fCountF (x : D) (ds : List D) (S : Sto) : Res D := match seqD S x, ds with
  | some (.lst, xs), [y] => if flatD y = true ∧ xs.all flatD = true then .ok (.int ((xs.map vOf).countP fun z => eqV z (vOf y) : Nat)) S else .bad
  | _, _ => .bad
theorem km_countF : RMK X (rCntF X.K) fCountF := by
  intro H S F m x xs d ds Q E h r rs p
  unfold fCountF at p
  split at p
  · rename_i ys y e
    obtain ⟨a, vs, rfl, h1, rv, _⟩ := seq_lst h r e
    cases rs with
    | cons a1 b1 =>
      cases b1
      split at p
      · rename_i hc
        obtain ⟨e1, f1⟩ := flat_rep a1 hc.1
        obtain ⟨e2, f2⟩ := flat_reps rv hc.2
        refine ⟨a, vs, _, rfl, rfl, .inl (.inl h1), f1, f2, ?_⟩
        rw [e2, e1]
        exact p _ H F m h (Ext.refl _ _ _) (.int _)
      · exact p.elim
  · exact p.elim
end
end DL

/-! DL: a, b, c = xs with xs a list. -/
namespace DL
open PySem PySem.Spec PyProof.Rows L2
variable {EX : XP} {ES : XPs}
def dUnp (e : Ev D) (gs : List D → DEnv → Option DEnv) : St' := fun ρ S => (e ρ S).bindS ρ fun d S1 => match seqD S1 d with
  | some (.lst, xs) => match gs xs ρ with
    | some ρ' => .nx ρ' S1
    | none => .bad
  | _ => .bad
section
variable {X : Cx} {e : Expr} {es : List Expr} {ge : Ev D} {gs : List D → DEnv → Option DEnv} {ix : List Nat} {n kk : Nat} {pos tpos : Pos} {k : Nat}
theorem ds_unp (ok : XOk X k) (h : DE X e ge) (hg : DGs X es gs ix) (hl : ∀ ds ρ ρ', gs ds ρ = some ρ' → ds.length = n) (hpg : ∀ {t : TGs}, PGs X es t → PG X (.Tuple es kk tpos) (gUnl X.K n t))
    (hs : swapsWithSole [.Tuple es kk tpos] e pos.line X.env = pure false := by rfl) (hw : swappedStores [.Tuple es kk tpos] e X.env = pure none := by rfl)
    (h1 : (assignEach [.Tuple es kk tpos] X.env).map (·.2) = [assign (.Tuple es kk tpos) X.env] := by rfl) : DS X (.Assign [.Tuple es kk tpos] e pos) (dUnp ge gs) := by
  refine ⟨fun W tk => ?_⟩
  obtain ⟨t, pt, rt⟩ := h.ex W tk
  obtain ⟨u, pu, ru⟩ := hg.ex
  refine ⟨_, ps_asg pt (hpg pu) hs hw h1, fun σ H ρ S F m N sl h p => ?_⟩
  refine rt σ H ρ S F m _ sl h (Post.bindS sl p fun d S1 v H1 F1 m1 h1 x1 r1 p1 => ?_)
  split at p1
  · rename_i xs e1
    obtain ⟨a, vs, rfl, hq, rv, _⟩ := seq_lst h1 r1 e1
    split at p1
    · rename_i ρ' eg
      exact ⟨a, vs, rfl, .inl (.inl hq), by rw [← rv.length]; exact hl _ _ _ eg, ru vs σ H1 ρ S1 F1 m1 xs ρ' _ (sl.le x1.le) h1 rv eg fun σ' sl' _ => p1 σ' H1 F1 m1 sl' h1 (Ext.refl _ _ _)⟩
    · exact p1.elim
  · exact p1.elim
end
section
variable {S : Sto} {ρ : DEnv} {N B C : DEnv → Sto → Prop} {R : D → Sto → Prop}
theorem ws_unp {e : Ev D} {gs : List D → DEnv → Option DEnv} : WsE ES (dUnp e gs ρ S) N R B C = WpE (ES.at ρ) (e ρ S) fun d S1 => ∃ xs, seqD S1 d = some (.lst, xs) ∧ toN (gs xs ρ) S1 N := by
  unfold dUnp
  rw [ws_bindS]
  congr 1
  funext d S1
  cases e1 : seqD S1 d with
  | none => simp [WsE]
  | some q =>
    obtain ⟨k, xs⟩ := q
    cases k with
    | lst => cases e2 : gs xs ρ <;> simp [WsE, toN, e2]
    | tup => simp [WsE]
    | scr => simp [WsE]
end
end DL

/-! DL: more of what is true at the end: least and greatest, comprehensions that change nothing. -/
namespace DL
open PySem PySem.Spec PyProof.Rows L2
variable {EX : XP} {ES : XPs}
section
variable {S S' : Sto} {ρ : DEnv} {α : Type}
theorem Wp.eqn {r : Res α} {x : α} (h : WpE noX r fun a T => a = x ∧ T = S) : r = .ok x S := by
  obtain ⟨a, T, e, rfl, rfl⟩ := Wp.ex h
  exact e
theorem lc_mapT {β : Type} {g : Tg} {e : Ev D} {Q : List D → Sto → Prop} (enc : β → D) (f : β → D) (xs : List β)
    (h : ∀ x ∈ xs, toN (g (enc x) ρ) S fun ρ1 _ => WpE noX (e ρ1 S) fun y S2 => y = f x ∧ S2 = S) (q : Q (xs.map f) S) : WpE EX (lcGo g dYes e ρ (xs.map enc) S) Q := by
  refine lc_map enc (fun _ => true) f xs (fun x hx => ?_) (by rw [List.filter_eq_self.mpr fun _ _ => rfl]; exact q)
  have z := h x hx
  cases eg : g (enc x) ρ with
  | none => rw [eg] at z; exact z
  | some ρ1 =>
    rw [eg] at z
    exact ⟨rfl, rfl, fun _ => z⟩
theorem minI_has : ∀ (ns : List Int) (n : Int), minI n ns ∈ n :: ns ∧ ∀ z ∈ n :: ns, minI n ns ≤ z
  | [], n => ⟨List.mem_singleton.mpr rfl, fun z hz => by rw [List.mem_singleton.mp hz]; exact Int.le_refl _⟩
  | k :: ns, n => by
    have e : minI n (k :: ns) = minI (if k < n then k else n) ns := rfl
    obtain ⟨h1, h2⟩ := minI_has ns (if k < n then k else n)
    rw [e]
    constructor
    · rcases List.mem_cons.mp h1 with z | z
      · rw [z]; split
        · exact List.mem_cons_of_mem _ (List.mem_cons_self ..)
        · exact List.mem_cons_self ..
      · exact List.mem_cons_of_mem _ (List.mem_cons_of_mem _ z)
    · intro z hz
      have h0 := h2 _ (List.mem_cons_self ..)
      rcases List.mem_cons.mp hz with rfl | hz
      · split at h0 <;> (try split) <;> omega
      · rcases List.mem_cons.mp hz with rfl | hz
        · split at h0 <;> (try split) <;> omega
        · exact h2 z (List.mem_cons_of_mem _ hz)
theorem maxI_has : ∀ (ns : List Int) (n : Int), maxI n ns ∈ n :: ns ∧ ∀ z ∈ n :: ns, z ≤ maxI n ns
  | [], n => ⟨List.mem_singleton.mpr rfl, fun z hz => by rw [List.mem_singleton.mp hz]; exact Int.le_refl _⟩
  | k :: ns, n => by
    have e : maxI n (k :: ns) = maxI (if n < k then k else n) ns := rfl
    obtain ⟨h1, h2⟩ := maxI_has ns (if n < k then k else n)
    rw [e]
    constructor
    · rcases List.mem_cons.mp h1 with z | z
      · rw [z]; split
        · exact List.mem_cons_of_mem _ (List.mem_cons_self ..)
        · exact List.mem_cons_self ..
      · exact List.mem_cons_of_mem _ (List.mem_cons_of_mem _ z)
    · intro z hz
      have h0 := h2 _ (List.mem_cons_self ..)
      rcases List.mem_cons.mp hz with rfl | hz
      · split at h0 <;> (try split) <;> omega
      · rcases List.mem_cons.mp hz with rfl | hz
        · split at h0 <;> (try split) <;> omega
        · exact h2 z (List.mem_cons_of_mem _ hz)
theorem orB_l {f g : List D → Sto → Res α} {ds : List D} {Q : α → Sto → Prop} (h : WpE noX (f ds S) Q) : WpE EX (orB f g ds S) Q := by
  obtain ⟨a, T, e, q⟩ := Wp.ex h
  unfold orB; rw [e]; exact q
theorem orB_r {f g : List D → Sto → Res α} {ds : List D} {Q : α → Sto → Prop} (e : f ds S = .bad) (h : WpE EX (g ds S) Q) : WpE EX (orB f g ds S) Q := by
  unfold orB; rw [e]; exact h
theorem wp_minZ {zs : List Int} {Q : D → Sto → Prop} (h : zs ≠ []) (q : ∀ m, m ∈ zs → (∀ z ∈ zs, m ≤ z) → Q (.int m) S) : WpE EX (orB (orB fMinL fMinP) (fExT false) [.lst (zs.map .int)] S) Q := by
  cases zs with
  | nil => exact absurd rfl h
  | cons n ns => exact orB_l (orB_l (wp_minL (q _ (minI_has ns n).1 (minI_has ns n).2)))
theorem wp_maxZ {zs : List Int} {Q : D → Sto → Prop} (h : zs ≠ []) (q : ∀ m, m ∈ zs → (∀ z ∈ zs, z ≤ m) → Q (.int m) S) : WpE EX (orB fMaxL (fExT true) [.lst (zs.map .int)] S) Q := by
  cases zs with
  | nil => exact absurd rfl h
  | cons n ns => exact orB_l (wp_maxL (q _ (maxI_has ns n).1 (maxI_has ns n).2))
theorem max_t2 {a b : Int} : orB fMaxL (fExT true) [.tup [.int a, .int b]] S = .ok (.int (max a b)) S := by
  have e : orB fMaxL (fExT true) [.tup [.int a, .int b]] S = .ok (.int (if a < b then b else a)) S := rfl
  rw [e]; congr 2; omega
theorem max_l2 {a b : Int} : orB fMaxL (fExT true) [.lst [.int a, .int b]] S = .ok (.int (max a b)) S := by
  have e : orB fMaxL (fExT true) [.lst [.int a, .int b]] S = .ok (.int (if a < b then b else a)) S := rfl
  rw [e]; congr 2; omega
theorem sum_t2 {a b : Int} : orB fSum fSumT [.tup [.int a, .int b]] S = .ok (.int (a + b)) S := by
  have e : orB fSum fSumT [.tup [.int a, .int b]] S = .ok (.int (a + (b + 0))) S := rfl
  rw [e]; congr 2; omega
theorem sum_l2 {a b : Int} : orB fSum fSumT [.lst [.int a, .int b]] S = .ok (.int (a + b)) S := by
  have e : orB fSum fSumT [.lst [.int a, .int b]] S = .ok (.int (a + (b + 0))) S := rfl
  rw [e]; congr 2; omega
theorem ixN_last {n : Nat} : ixN (n + 1) (-1) = some n := by
  unfold ixN; rw [if_neg (by decide), if_pos (by omega)]; congr 1; omega
theorem ix_l0 {d : D} {ds : List D} : fIx (.lst (d :: ds)) (.int 0) S = .ok d S := by rw [fIx_lst]; unfold atI ixN; simp
theorem ix_l1 {d e : D} {ds : List D} : fIx (.lst (d :: e :: ds)) (.int 1) S = .ok e S := by rw [fIx_lst]; unfold atI ixN; simp; rw [if_pos (by omega)]; rfl
theorem ix_t0 {d : D} {ds : List D} : fIx (.tup (d :: ds)) (.int 0) S = .ok d S := by rw [fIx_tup]; unfold atI ixN; simp
theorem ix_t1 {d e : D} {ds : List D} : fIx (.tup (d :: e :: ds)) (.int 1) S = .ok e S := by rw [fIx_tup]; unfold atI ixN; simp; rw [if_pos (by omega)]; rfl
theorem wp_zip {gs : Ev (List D)} {Q : List D → Sto → Prop} : WpE EX (dZip gs ρ S) Q = WpE EX (gs ρ S) fun ds S1 => WpE EX (fZip ds S1) Q := wp_bind
theorem fZip_lst {xs ys : List D} : fZip [.lst xs, .lst ys] S = .ok (zipD xs ys) S := rfl
theorem fZip_tup {xs ys : List D} : fZip [.tup xs, .tup ys] S = .ok (zipD xs ys) S := rfl
theorem zip_ints (as bs : List Int) : zipD (as.map D.int) (bs.map D.int) = (as.zip bs).map prD := by
  unfold zipD
  rw [List.zip_map, List.map_map]; rfl
theorem cnt_true : ∀ (bs : List Bool), ((bs.map D.bl).map vOf).countP (fun z => eqV z (vOf (.bl true))) = bs.countP id
  | [] => rfl
  | b :: bs => by
    rw [List.map_cons, List.map_cons, List.countP_cons, cnt_true bs, List.countP_cons]
    cases b <;> rfl
theorem flat_bls (bs : List Bool) : (bs.map D.bl).all flatD = true := by
  induction bs with
  | nil => rfl
  | cons b bs ih => rw [List.map_cons, List.all_cons, ih]; rfl
theorem wp_countT {bs : List Bool} {Q : D → Sto → Prop} (q : Q (.int (bs.countP id : Nat)) S) : WpE EX (fCountF (.lst (bs.map .bl)) [.bl true] S) Q := by
  unfold fCountF
  dsimp only [seqD]
  rw [if_pos ⟨rfl, flat_bls bs⟩, cnt_true]
  exact q
theorem wp_revInt {ns : List Int} {Q : List D → Sto → Prop} (q : Q (ns.reverse.map .int) S) : WpE EX (fRev (.lst (ns.map .int)) S) Q := by
  rw [fRev_lst, ← List.map_reverse]; exact q
theorem mapE_getD {α : Type} {enc : α → D} {f : List α} {i : Nat} {d : D} (h : (f.map enc)[i]? = some d) : ∃ x, d = enc x ∧ i < f.length ∧ f.drop i = x :: f.drop (i + 1) ∧ f.take (i + 1) = f.take i ++ [x] ∧ x ∈ f ∧ f[i]? = some x := by
  rw [List.getElem?_map] at h
  cases e : f[i]? with
  | none => rw [e] at h; cases h
  | some x =>
    rw [e] at h
    obtain ⟨hi, rfl⟩ := List.getElem?_eq_some_iff.mp e
    exact ⟨_, (Option.some.inj h).symm, hi, (List.getElem_cons_drop hi).symm, by rw [List.take_succ_eq_append_getElem hi], List.getElem_mem hi, rfl⟩
theorem atI_last {xs : List D} {d : D} : atI (xs ++ [d]) (-1) = some d := by
  unfold atI
  rw [show (xs ++ [d]).length = xs.length + 1 by simp, ixN_last]
  simp
theorem fNe_same {d : D} {n : Nat} (h : Sm d n) (hs : notStr d = true) : fNe d d S = .ok false S := by
  rw [fNe_sm h h hs, eqv_refl h.isD]; rfl
theorem fEq_same {d : D} {n : Nat} (h : Sm d n) (hs : notStr d = true) : fEq d d S = .ok true S := by
  rw [fEq_sm h h hs, eqv_refl h.isD]
theorem sm_l2 {a b : Int} (h1 : a.natAbs < 10 ^ 12) (h2 : b.natAbs < 10 ^ 12) : Sm (.lst [.int a, .int b]) 100 := by
  have := (sml_ints (ns := [a, b]) fun n hn => by
    simp only [List.mem_cons, List.not_mem_nil, or_false] at hn
    rcases hn with rfl | rfl
    · exact h1
    · exact h2).1
  exact (sm_lst this).mono (by simp)
theorem fNe_l2 {a b c d : Int} (e1 : a = c) (e2 : b = d) (h1 : a.natAbs < 10 ^ 12) (h2 : b.natAbs < 10 ^ 12) : fNe (.lst [.int a, .int b]) (.lst [.int c, .int d]) S = .ok false S := by
  subst e1 e2
  exact fNe_same (sm_l2 h1 h2) rfl
theorem cut_take {xs : List D} {i : Nat} : cutD xs none (some (i : Int)) = xs.take i := by
  unfold cutD
  rw [HT.sIx_nat, HT.sIx_none, List.drop_zero, Nat.sub_zero]
  by_cases h : i ≤ xs.length
  · rw [Nat.min_eq_left h]
  · rw [Nat.min_eq_right (by omega), List.take_of_length_le (Nat.le_refl _), List.take_of_length_le (by omega)]
theorem cut_drop {xs : List D} {i : Nat} : cutD xs (some (i : Int)) none = xs.drop i := by
  unfold cutD
  rw [HT.sIx_nat, HT.sIx_none]
  by_cases h : i ≤ xs.length
  · rw [Nat.min_eq_left h, List.take_of_length_le (by simp)]
  · rw [Nat.min_eq_right (by omega), List.drop_eq_nil_of_le (Nat.le_refl _), List.drop_eq_nil_of_le (by omega), List.take_nil]
theorem fCut_take {xs : List Int} {r : Int} (h : 0 ≤ r) : fCut (.tup (xs.map .int)) none (some r) S = .ok (.tup ((xs.take r.toNat).map .int)) S := by
  obtain ⟨k, rfl⟩ := Int.eq_ofNat_of_zero_le h
  rw [fCut_tup, cut_take, List.map_take, Int.toNat_natCast]
theorem fCut_drop {xs : List Int} {r : Int} (h : 0 ≤ r) : fCut (.tup (xs.map .int)) (some r) none S = .ok (.tup ((xs.drop r.toNat).map .int)) S := by
  obtain ⟨k, rfl⟩ := Int.eq_ofNat_of_zero_le h
  rw [fCut_tup, cut_drop, List.map_drop, Int.toNat_natCast]
theorem mulT {xs : List D} {n : Nat} (h : n ≤ 1000) (hx : xs.length ≤ 1000) : fMul (.tup xs) (.int n) S = .ok (.tup (List.replicate n xs).flatten) S := by
  have e : fMul (.tup xs) (.int n) S = (if xs ≠ [] ∧ 2 ≤ (n : Int) ∧ (n : Int) ≤ 1000 ∧ xs.length ≤ 1000 then .ok (.tup (List.replicate (n : Int).toNat xs).flatten) S
      else if -(2 ^ 63) ≤ (n : Int) ∧ (n : Int) < 2 ^ 63 ∧ (xs = [] ∨ (n : Int) = 1) then .ok (.tup xs) S
      else if xs ≠ [] ∧ -(2 ^ 63) ≤ (n : Int) ∧ (n : Int) ≤ 0 then .ok (.tup []) S else .bad) := rfl
  rw [e]
  by_cases h0 : xs = []
  · subst h0
    rw [if_neg (by simp), if_pos ⟨by omega, by omega, .inl rfl⟩]
    simp
  · by_cases h2 : 2 ≤ n
    · rw [if_pos ⟨h0, by omega, by omega, hx⟩, Int.toNat_natCast]
    · rw [if_neg (by omega)]
      by_cases h1 : n = 1
      · subst h1
        rw [if_pos ⟨by omega, by omega, .inr rfl⟩]; simp
      · have : n = 0 := by omega
        subst this
        rw [if_neg (by simp [h0]), if_pos ⟨h0, by omega, by omega⟩]; simp
theorem mulT1 {a : Int} {n : Nat} (h : n ≤ 1000) : fMul (.tup [.int a]) (.int n) S = .ok (.tup ((List.replicate n a).map .int)) S := by
  rw [mulT h (by simp)]; simp
theorem seq_lstI {xs : List D} {P : List D → Prop} (h : P xs) : ∃ ys, seqD S (.lst xs) = some (Kd.lst, ys) ∧ P ys := ⟨xs, rfl, h⟩
theorem not_same {β : Type} {a : β} [Decidable (a = a)] : ¬((!decide (a = a)) = true) := by simp
theorem yes_same {β : Type} {a : β} [Decidable (a = a)] : decide (a = a) = true := by simp
theorem wp_eq {r : Res α} {a : α} {Q : α → Sto → Prop} (e : r = .ok a S') (h : Q a S') : WpE EX r Q := by rw [e]; exact h
end
end DL

/-! DL: isinstance, a chain as a value. -/
namespace DL
open PySem PySem.Spec PyProof.Rows L2
variable {EX : XP} {ES : XPs}
section
variable {X : Cx} {pos : Pos} {a b c e : Expr} {ga gb gc : Ev D}
theorem de_chain {op op' : CmpOp} {r r' : R2} {f f' : D → D → Sto → Res Bool} (ho : OpR X (compareOp op) r) (ho' : OpR X (compareOp op') r')
    (hmono : ∀ x y H (Q Q' : VK), (∀ v H', Q v H' → Q' v H') → r x y H Q → r x y H Q') (hf : RCK X r f) (hf' : RCK X r' f') (hmono' : ∀ x y H (Q Q' : VK), (∀ v H', Q v H' → Q' v H') → r' x y H Q → r' x y H Q')
    (ha : DE X a ga) (hb : DE X b gb) (hc : DE X c gc) (pc : ∀ {ta tb tc : TE}, PE X a ta → PE X b tb → PE X c tc → PE X (.Compare a [op, op'] [b, c] pos) (tChain r r' ta tb tc)) :
    DE X (.Compare a [op, op'] [b, c] pos) (dBl (dCh f f' ga gb gc)) := by
  refine ⟨fun W tk => ?_⟩
  obtain ⟨ta, pa, ra⟩ := ha.ex W tk
  obtain ⟨tb, pb, rb⟩ := hb.ex W tk
  obtain ⟨tc, pcc, rc⟩ := hc.ex W tk
  refine ⟨_, pc pa pb pcc, fun σ H ρ S F m Q sl h p => ?_⟩
  have p' := postB_V p
  refine ra σ H ρ S F m _ sl h (Post.bind p' fun d S1 v H1 F1 m1 h1 x1 r1 p1 => ?_)
  refine rb σ H1 ρ S1 F1 m1 _ (sl.le x1.le) h1 (Post.bind p1 fun d2 S2 v2 H2 F2 m2 h2 x2 r2 p2 => ?_)
  refine hmono _ _ _ _ _ (fun v H' q => q) (hmono _ _ _ (fun v H' => ∃ k, v = .bl k ∧ (if k = true then tc σ H' (fun w H4 => r' v2 w H4 Q) else Q (.bl false) H')) _ (fun v H' q => q) (hf H2 S2 F2 m2 v v2 d d2 _ _ h2 (r1.le x2.le) r2 (Post.bind p2 fun k S3 k' H3 F3 m3 h3 x3 e p3 => ?_)))
  subst e
  by_cases hk : k = true
  · rw [if_pos hk] at p3 ⊢
    refine rc σ H3 ρ S3 F3 m3 _ (sl.le (x1.le.trans (x2.le.trans x3.le))) h3 (Post.bind p3 fun d4 S4 v4 H4 F4 m4 h4 x4 r4 p4 => ?_)
    exact hmono' _ _ _ _ _ (fun v H' ⟨k, e, q⟩ => by subst e; exact q) (hf' H4 S4 F4 m4 v2 v4 d2 d4 _ _ h4 (r2.le (x3.le.trans x4.le)) r4 p4)
  · rw [if_neg hk] at p3 ⊢
    exact p3 false H3 F3 m3 h3 (Ext.refl _ _ _) rfl
theorem de_ty {x : Str} {n : String} (hg : Gl X x) (hm : X.mg x = none) (hv : bootBuiltins x = some (.type n) := by decide +kernel) (hn : x ≠ "__name__" := by decide) (hd : (x == ("__debug__" : Str)) = false := by decide) : DE X (.Name x pos) (dK (.ty n)) :=
  de_k (pe_bltn (v := V.ty n) hg hm hv rfl hn hd) fun _ _ _ => .ty n
/-- the type of data -/
def tyOf (S : Sto) : D → Option String
  | .non => some "NoneType"
  | .bl _ => some "bool"
  | .int _ => some "int"
  | .str _ => some "str"
  | .tup _ => some "tuple"
  | .tupZ _ => some "tuple"
  | .dicS _ => some "dict"
  | .lst _ => some "list"
  | .dic0 => some "dict"
  | .loc n => match S[n]? with
    | some (.lst _) => some "list"
    | some (.dk _) => some "dict"
    | some (.dt _) => some "dict"
    | _ => none
  | _ => none
theorem ty_rep {K : PySem.W.Frag} {H F : Hp} {S : Sto} {m : List Addr} {d : D} {v : V} {t : String} (h : HSt K H S F m) (r : Rep K F m d v) (e : tyOf S d = some t) : TyX K H v (.type t) := by
  cases r with
  | non => cases e; exact .base .non
  | bl b => cases e; exact .base (.bl b)
  | int i => cases e; exact .base (.int i)
  | str s _ => cases e; exact .base (.str s)
  | tup _ f _ =>
    cases e
    exact .base (.tup (h.fz _ _ f))
  | tupZ _ f _ =>
    cases e
    obtain ⟨o, f, _⟩ := f
    exact .fTuple (h.fz _ _ f)
  | dicS _ f => cases e; exact .base (.dK (h.fz _ _ f))
  | lst _ f _ => cases e; exact .base (.lst (h.fz _ _ f))
  | scr _ _ _ => cases e
  | dic0 f => cases e; exact .base (.dK (h.fz _ _ f))
  | @loc n a f =>
    unfold tyOf at e
    dsimp only at e
    cases q : S[n]? with
    | none => rw [q] at e; cases e
    | some o =>
      rw [q] at e
      cases o with
      | lst ds =>
        cases e
        obtain ⟨_, ho, h1, vs, rfl, _⟩ := h.sto n a _ f q (by simp)
        exact .base (.lst h1)
      | dk ds =>
        cases e
        obtain ⟨_, ho, h1, vs, rfl, _⟩ := h.sto n a _ f q (by simp)
        exact .base (.dK h1)
      | dt ds =>
        cases e
        obtain ⟨_, ho, h1, vs, rfl, _⟩ := h.sto n a _ f q (by simp)
        exact .base (.dT h1)
      | ins C fs => cases e
      | gone => cases e
  | adr a => cases e
  | ty n => cases e
  | xc0 _ => cases e
  | xc1 _ _ _ => cases e
def fIsi (ds : List D) (S : Sto) : Res D := match ds with
  | [d, .ty n] => match tyOf S d with
    | some t => match kitB t n with
      | some b => .ok (.bl b) S
      | none => .bad
    | none => .bad
  | _ => .bad
theorem k_isi : RLK X (rIsi X.K) fIsi := by
  intro H S F m xs ds Q E h r p
  unfold fIsi at p
  split at p
  · rename_i d n
    cases r with
    | cons a b =>
      cases b with
      | cons a2 b2 =>
        cases b2
        split at p
        · rename_i t e
          split at p
          · rename_i k ek
            cases a2
            exact ⟨_, _, _, _, k, rfl, .ty n, ty_rep h a e, kit_ty ek, p _ H F m h (Ext.refl _ _ _) (.bl k)⟩
          · exact p.elim
        · exact p.elim
  · exact p.elim
end
section
variable {S : Sto} {d : D} {Q : D → Sto → Prop}
theorem kb_refl {t : String} : kitB t t = some true := by
  unfold kitB
  rw [if_pos (by simp)]
theorem wp_isi {n t : String} {b : Bool} (e1 : tyOf S d = some t) (e2 : kitB t n = some b) (q : Q (.bl b) S) : WpE EX (fIsi [d, .ty n] S) Q := by
  unfold fIsi
  dsimp only
  rw [e1]
  dsimp only
  rw [e2]
  exact q
theorem kb01 : kitB "bool" "int" = some true := by decide +kernel
theorem kb02 : kitB "int" "bool" = some false := by decide +kernel
theorem kb03 : kitB "NoneType" "bool" = some false := by decide +kernel
theorem kb04 : kitB "str" "bool" = some false := by decide +kernel
theorem kb05 : kitB "tuple" "bool" = some false := by decide +kernel
theorem kb06 : kitB "list" "bool" = some false := by decide +kernel
theorem kb07 : kitB "dict" "bool" = some false := by decide +kernel
theorem kb08 : kitB "NoneType" "int" = some false := by decide +kernel
theorem kb09 : kitB "str" "int" = some false := by decide +kernel
theorem kb10 : kitB "tuple" "int" = some false := by decide +kernel
theorem kb11 : kitB "list" "int" = some false := by decide +kernel
theorem kb12 : kitB "dict" "int" = some false := by decide +kernel
theorem kb13 : kitB "NoneType" "tuple" = some false := by decide +kernel
theorem kb14 : kitB "bool" "tuple" = some false := by decide +kernel
theorem kb15 : kitB "int" "tuple" = some false := by decide +kernel
theorem kb16 : kitB "str" "tuple" = some false := by decide +kernel
theorem kb17 : kitB "list" "tuple" = some false := by decide +kernel
theorem kb18 : kitB "dict" "tuple" = some false := by decide +kernel
theorem kb19 : kitB "NoneType" "str" = some false := by decide +kernel
theorem kb20 : kitB "bool" "str" = some false := by decide +kernel
theorem kb21 : kitB "int" "str" = some false := by decide +kernel
theorem kb22 : kitB "tuple" "str" = some false := by decide +kernel
theorem kb23 : kitB "list" "str" = some false := by decide +kernel
theorem kb24 : kitB "dict" "str" = some false := by decide +kernel
theorem isi_int_int {i : Int} : fIsi [.int i, .ty "int"] S = .ok (.bl true) S := Wp.eqn (wp_isi rfl kb_refl ⟨rfl, rfl⟩)
theorem isi_int_bool {i : Int} : fIsi [.int i, .ty "bool"] S = .ok (.bl false) S := Wp.eqn (wp_isi rfl kb02 ⟨rfl, rfl⟩)
theorem isi_tup_tup {xs : List D} : fIsi [.tup xs, .ty "tuple"] S = .ok (.bl true) S := Wp.eqn (wp_isi rfl kb_refl ⟨rfl, rfl⟩)
theorem isi_str_str {s : Str} : fIsi [.str s, .ty "str"] S = .ok (.bl true) S := Wp.eqn (wp_isi rfl kb_refl ⟨rfl, rfl⟩)
end
end DL

/-! DL: sorted pairs; index; a set out of a tuple. -/
namespace DL
open PySem PySem.Spec PyProof.Rows L2
variable {EX : XP} {ES : XPs}
theorem sorted_eqG {α : Type} {le : α → α → Prop} (anti : ∀ a b, le a b → le b a → a = b) : ∀ {as bs : List α}, as.Perm bs → as.Pairwise le → bs.Pairwise le → as = bs
  | [], bs, h, _, _ => h.nil_eq
  | a :: as, [], h, _, _ => absurd h.eq_nil (by simp)
  | a :: as, b :: bs, h, ha, hb => by
    have ha1 := List.pairwise_cons.mp ha
    have hb1 := List.pairwise_cons.mp hb
    have e : a = b := by
      rcases List.mem_cons.mp (h.subset (List.mem_cons_self ..)) with h1 | h1
      · exact h1
      · rcases List.mem_cons.mp (h.symm.subset (List.mem_cons_self ..)) with h2 | h2
        · exact h2.symm
        · exact anti _ _ (ha1.1 b h2) (hb1.1 a h1)
    subst e
    rw [sorted_eqG anti (List.perm_cons a |>.mp h) ha1.2 hb1.2]
def leP (p q : Int × Int) : Bool := !SrtO.lexB q p
theorem leP_iff {p q : Int × Int} : leP p q = true ↔ p.1 < q.1 ∨ (p.1 = q.1 ∧ p.2 ≤ q.2) := by
  unfold leP
  rw [Bool.not_eq_true', SrtO.lexB_no]
  omega
def sortP (ps : List (Int × Int)) : List (Int × Int) := ps.mergeSort leP
theorem sortP_perm (ps : List (Int × Int)) : (sortP ps).Perm ps := List.mergeSort_perm ..
theorem sortP_sorted (ps : List (Int × Int)) : (sortP ps).Pairwise fun p q => leP p q = true := by
  refine List.pairwise_mergeSort (fun a b c h1 h2 => ?_) (fun a b => ?_) ps
  · rw [leP_iff] at h1 h2 ⊢; omega
  · by_cases h : leP a b = true
    · simp [h]
    · have : leP b a = true := by rw [leP_iff] at h ⊢; omega
      simp [this]
theorem leP_anti (p q : Int × Int) (h1 : leP p q = true) (h2 : leP q p = true) : p = q := by
  rw [leP_iff] at h1 h2
  have : p.1 = q.1 ∧ p.2 = q.2 := by omega
  exact Prod.ext this.1 this.2
def kOf (H : Hp) (v : V) : Int × Int := match v with
  | .ref t => match H t with
    | some (.tup [.int a, .int b]) => (a, b)
    | _ => (0, 0)
  | _ => (0, 0)
theorem pr_rep {K : PySem.W.Frag} {F H : Hp} {m : List Addr} {p : Int × Int} {v : V} (fz : ∀ a o, F a = some o → H a = some o) (r : Rep K F m (prD p) v) : ∃ t, v = .ref t ∧ H t = some (.tup [.int p.1, .int p.2]) := by
  cases r with
  | tup z f rv =>
    cases rv with
    | cons a b =>
      cases b with
      | cons a2 b2 =>
        cases b2; cases a; cases a2
        exact ⟨_, rfl, fz _ _ f⟩
theorem prs_reps {K : PySem.W.Frag} {F H : Hp} {m : List Addr} (fz : ∀ a o, F a = some o → H a = some o) : ∀ {ps : List (Int × Int)} {vs : List V}, RepL K F m (ps.map prD) vs → vs.map (kOf H) = ps ∧ ∀ v ∈ vs, (∃ t, v = .ref t ∧ H t = some (.tup [.int (kOf H v).1, .int (kOf H v).2])) ∧ Rep K F m (prD (kOf H v)) v
  | [], _, .nil => ⟨rfl, fun _ h => nomatch h⟩
  | p :: ps, _, .cons a b => by
    obtain ⟨t, e, ht⟩ := pr_rep fz a
    subst e
    obtain ⟨h1, h2⟩ := prs_reps fz b
    have hk : kOf H (.ref t) = p := by
      unfold kOf
      dsimp only
      rw [ht]
    refine ⟨by rw [List.map_cons, h1, hk], fun v hv => ?_⟩
    rcases List.mem_cons.mp hv with e | hv
    · subst e; rw [hk]; exact ⟨⟨t, rfl, ht⟩, a⟩
    · exact h2 v hv
theorem reps_of {K : PySem.W.Frag} {F : Hp} {m : List Addr} {k : V → D} : ∀ {vs : List V}, (∀ v ∈ vs, Rep K F m (k v) v) → RepL K F m (vs.map k) vs
  | [], _ => .nil
  | v :: vs, h => .cons (h v (List.mem_cons_self ..)) (reps_of fun x hx => h x (List.mem_cons_of_mem _ hx))
def fSortedP (ds : List D) (S : Sto) : Res (List D) := match ds with
  | [d] => match seqD S d with
    | some (.lst, xs) => match pairsOf xs with
      | some ps => .ok ((sortP ps).map prD) S
      | none => .bad
    | _ => .bad
  | _ => .bad
section
variable {X : Cx}
theorem k_sortedP : RNK X (rSortedPO X.K) fSortedP := by
  intro H S F m xs ds Q E h r p
  unfold fSortedP at p
  split at p
  · cases r with
    | cons a b =>
      cases b
      split at p
      · rename_i ys e1
        obtain ⟨l, vs, rfl, h1, rv, z⟩ := seq_lst h a e1
        split at p
        · rename_i ps e2
          have e3 := pairs_eq e2
          subst e3
          obtain ⟨k1, k2⟩ := prs_reps h.fz rv
          refine ⟨l, vs, kOf H, rfl, .inl (.inl h1), fun v hv => (k2 v hv).1, fun zs q hs hb hq => ?_⟩
          have e4 : zs.map (kOf H) = sortP ps := by
            refine sorted_eqG leP_anti (((hb.perm.map _).trans (by rw [k1])).trans (sortP_perm ps).symm) ?_ (sortP_sorted ps)
            refine List.pairwise_map.mpr (hs.imp fun h => ?_)
            have h' : SrtO.lexB (kOf H _) (kOf H _) = false := h
            unfold leP
            rw [h']; rfl
          have rz : RepL X.K F m ((sortP ps).map prD) zs := by
            rw [← e4, List.map_map]
            exact reps_of fun v hv => (k2 v (hb.perm.subset hv)).2
          exact new_n h rz (by rw [List.length_map, (sortP_perm ps).length_eq]; simpa using z) p q hq
        · exact p.elim
      · exact p.elim
  · exact p.elim
/-- t.index(x) of flat items, the first place -/
def rIndexT (K : PySem.W.Frag) : V → List V → Hp → VK → Prop := fun x xs H Q => ∃ (a : Addr) (ys : List V) (y : V) (j : Nat), x = V.ref a ∧ xs = [y] ∧ SqT K H a ys ∧ flatV y = true ∧ ys.all flatV = true ∧ (∃ z, ys[j]? = some z ∧ eqV z y = true) ∧
  (∀ (n : Nat) (z' : V), n < j → ys[n]? = some z' → eqV z' y = false) ∧ Q (.int (j : Nat)) H
theorem mt_indexT : MtR X "tuple.index" (rIndexT X.K) := by
  intro pins s σ H x xs v us Q I rx rs h
  obtain ⟨p, ys, y, j, rfl, rfl, hq, fy, fys, ⟨z, hz, hzy⟩, hno, q⟩ := h
  cases rx
  obtain ⟨u, rfl, ru⟩ := vals1 rs
  obtain ⟨its, r, pl, hsz⟩ := I.tuple hq
  obtain ⟨⟨cls, dd, dt, sl⟩, ho, hc, n, hd⟩ := pl
  simp only at hc hd
  subst hc hd
  have hl : its.toArray.size = ys.length := (List.size_toArray ..).trans r.length.symm
  have at' : ∀ (i : Nat) (hi : i < its.toArray.size), ∃ w, ys[i]? = some w ∧ RelV w its.toArray[i] := fun i hi => by
    have hi' : i < ys.length := hl ▸ hi
    obtain ⟨w, hw, rw'⟩ := r.get (i := i) (x := ys[i]) (by simp [hi'])
    refine ⟨ys[i], List.getElem?_eq_getElem hi', ?_⟩
    obtain ⟨_, e⟩ := List.getElem?_eq_some_iff.mp hw
    subst e
    exact rw'
  have hj : j < its.toArray.size := hl ▸ (List.getElem?_eq_some_iff.mp hz).1
  have found := TI.tuple_indexAt p its.toArray n dd sl u (eqU y) j hj (by
    obtain ⟨w, hw, rw'⟩ := at' j hj
    rw [hz] at hw
    cases hw
    rw [eqU_of rw' (flat_at fys hz)]; exact hzy) fun i hi hij => by
      obtain ⟨w, hw, rw'⟩ := at' i hi
      rw [eqU_of rw' (flat_at fys hw)]; exact hno i w hij hw
  exact call_meets PySem.F.slot_tuple_index ⟨_, ho, rfl⟩ PySem.F.entry_tuple_index (PySem.F.args_tuple_index_2 _ _) found
    ⟨ho, fun w hw => mem_eqAt ru fy r fys w (by simpa using hw), .int (j : Nat), H, I.tok _, ⟨_, rfl⟩, q⟩
/-- the first place at which the item is -/
def firstAt (x : D) : List D → Option Nat
  | [] => none
  | d :: ds => if eqV (vOf d) (vOf x) = true then some 0 else (firstAt x ds).map (· + 1)
theorem first_at {x : D} : ∀ {ds : List D} {j : Nat}, firstAt x ds = some j → (∃ z, (ds.map vOf)[j]? = some z ∧ eqV z (vOf x) = true) ∧ ∀ (n : Nat) (z' : V), n < j → (ds.map vOf)[n]? = some z' → eqV z' (vOf x) = false
  | [], j, h => nomatch h
  | d :: ds, j, h => by
    unfold firstAt at h
    split at h
    · rename_i e
      cases h
      exact ⟨⟨vOf d, rfl, e⟩, fun n _ hn => absurd hn (Nat.not_lt_zero _)⟩
    · rename_i e
      cases q : firstAt x ds with
      | none => rw [q] at h; cases h
      | some k =>
        rw [q] at h
        cases h
        obtain ⟨⟨z, h1, h2⟩, h3⟩ := first_at q
        refine ⟨⟨z, by simpa using h1, h2⟩, fun n z' hn hz => ?_⟩
        cases n with
        | zero =>
          have : vOf d = z' := by simpa using hz
          rw [← this]; simpa using e
        | succ n => exact h3 n z' (Nat.lt_of_succ_lt_succ hn) (by simpa using hz)
def fIndexT (x : D) (ds : List D) (S : Sto) : Res D := match x, ds with
  | .tup xs, [y] => if flatD y = true ∧ xs.all flatD = true then match firstAt y xs with
      | some j => .ok (.int (j : Nat)) S
      | none => .bad
    else .bad
  | _, _ => .bad
def fIndexL (x : D) (ds : List D) (S : Sto) : Res D := match seqD S x, ds with
  | some (.lst, xs), [y] => if flatD y = true ∧ xs.all flatD = true then match firstAt y xs with
      | some j => .ok (.int (j : Nat)) S
      | none => .bad
    else .bad
  | _, _ => .bad
theorem km_indexT : RMK X (rIndexT X.K) fIndexT := by
  intro H S F m x xs d ds Q E h r rs p
  unfold fIndexT at p
  split at p
  · rename_i ys y
    cases rs with
    | cons a1 b1 =>
      cases b1
      split at p
      · rename_i hc
        split at p
        · rename_i j ej
          cases r with
          | tup z f rv =>
            obtain ⟨e1, f1⟩ := flat_rep a1 hc.1
            obtain ⟨e2, f2⟩ := flat_reps rv hc.2
            obtain ⟨g1, g2⟩ := first_at ej
            refine ⟨_, _, _, j, rfl, rfl, .inl (.inl (h.fz _ _ f)), f1, f2, ?_, ?_, p _ H F m h (Ext.refl _ _ _) (.int _)⟩
            · rw [e1, e2]; exact g1
            · rw [e1, e2]; exact g2
        · exact p.elim
      · exact p.elim
  · exact p.elim
theorem km_indexL : RMK X (rIndex X.K) fIndexL := by
  intro H S F m x xs d ds Q E h r rs p
  unfold fIndexL at p
  split at p
  · rename_i ys y e
    obtain ⟨a, vs, rfl, h1, rv, _⟩ := seq_lst h r e
    cases rs with
    | cons a1 b1 =>
      cases b1
      split at p
      · rename_i hc
        split at p
        · rename_i j ej
          obtain ⟨e1, f1⟩ := flat_rep a1 hc.1
          obtain ⟨e2, f2⟩ := flat_reps rv hc.2
          obtain ⟨⟨z, g0, g1⟩, g2⟩ := first_at ej
          refine ⟨a, vs, _, j, z, rfl, rfl, .inl (.inl h1), f1, f2, ?_, ?_, ?_, p _ H F m h (Ext.refl _ _ _) (.int _)⟩
          · rw [e2]; exact g0
          · rw [e1]; exact g1
          · rw [e1, e2]; exact g2
        · exact p.elim
      · exact p.elim
  · exact p.elim
def rSetT (K : PySem.W.Frag) (w : World) : List V → Hp → VK → Prop := fun vs H Q => ∃ (a : Addr) (ns : List Int), vs = [V.ref a] ∧ SqT K H a (ns.map V.int) ∧ ns.length < 1000 ∧
  ∀ p c, H p = none → c ≤ ns.length → Q (.ref p) (upd H p (SetO w p (fun j => decide (j ∈ ns)) c))
theorem cr_setT (hc : X.calm = true) : CallR X (.type "set") (rSetT X.K X.w) := by
  intro pins s σ H vs us Q I r h
  obtain ⟨a, ns, rfl, hs, hl, q⟩ := h
  obtain ⟨its, rv, pl, _⟩ := I.tuple hs
  obtain ⟨u, rfl, ru⟩ := vals1 r
  obtain rfl : u = Value.ref a := ru
  refine call_set_tupI ns (I.ok.hd hc) (show s.heap.IsTuple a its.toArray from pl) (ints_of_vals rv) (by unfold scanBound; omega) fun h' tk c R1 hcn k => ?_
  exact ⟨.ref s.heap.objs.size, _, I.laid (t' := tk) k (Nat.le_refl _) (setO_new R1), rfl, q _ c (I.hok.fresh (Nat.le_refl _)) hcn⟩
def fSortSet2 (d : D) (S : Sto) : Res (List D) := match lintsOf S d with
  | some ns => if ns.length < 1000 then .ok ((setI ns).map .int) S else .bad
  | none => match tintsOf d with
    | some ns => if ns.length < 1000 then .ok ((setI ns).map .int) S else .bad
    | none => .bad
def dSortSet2 (a : Ev D) : Ev (List D) := fun ρ S => (a ρ S).bind fSortSet2
theorem dn_sortSet2 {k : Nat} {e : Expr} {ga : Ev D} {p p2 pos pos2 : Pos} (ok : XOk X k) (ha : DE X e ga)
    (hpe : ∀ {te : TE} {r1 r2}, PE X e te → CallR X (.type "set") r1 → CallR X (.builtin "sorted") r2 → PE X (.Call (.Name "sorted" p) [.Call (.Name "set" p2) [e] [] pos2] [] pos) (tCB r2 (tCons (tCB r1 (tCons te tNil)) tNil))) :
    DN X (.Call (.Name "sorted" p) [.Call (.Name "set" p2) [e] [] pos2] [] pos) (dSortSet2 ga) := by
  refine ⟨fun W tk => ?_⟩
  obtain ⟨ta, pa, ra⟩ := ha.ex W tk
  refine ⟨_, hpe pa (callOr (cr_setL ok.calm) (cr_setT ok.calm)) (cr_sortedSetB ok.calm), fun σ H ρ S F m Q sl h q => ?_⟩
  refine ra σ H ρ S F m _ sl h (Post.bindN q fun d S1 v H1 F1 m1 h1 x1 r1 p1 => ?_)
  have fin : ∀ ns : List Int, ns.length < 1000 → PostN X.mg X.K H1 F1 m1 (.ok ((setI ns).map D.int) S1) Q (fun c d H' => W c d σ H') → ∀ b c, H1 b = none → c ≤ ns.length →
      tCons (fun (_ : St) H Q => Q (.ref b) H) tNil σ (upd H1 b (SetO X.w b (fun j => decide (j ∈ ns)) c)) fun vs H2 => rSortedSetB X.w vs H2 Q := by
    intro ns hl p1 b c hb hc
    refine ⟨b, _, c, rfl, upd_same, by omega, fun ns' p' hp hm hn hfree => ?_⟩
    have e2 : ns' = setI ns := strict_eq hp (setI_sorted ns) fun z => by rw [hm z, mem_setI]; simp
    subst e2
    obtain ⟨h2, x2⟩ := h1.lay hb (SetO X.w b (fun j => decide (j ∈ ns)) c)
    exact new_n h2 (rep_ints _) (by rw [List.length_map, hn]; exact line_le (by omega)) (PostN.later x2 p1) p' hfree
  unfold fSortSet2 at p1
  split at p1
  · rename_i ns e1
    obtain ⟨a, rfl, hq, _⟩ := lints_ok h1 r1 e1
    split at p1
    · rename_i hl
      exact .inl ⟨a, ns, rfl, hq, hl, fin ns hl p1⟩
    · exact p1.elim
  · split at p1
    · rename_i ns e1
      obtain ⟨a, rfl, hq⟩ := tints_ok h1 r1 e1
      split at p1
      · rename_i hl
        exact .inr ⟨a, ns, rfl, hq, hl, fin ns hl p1⟩
      · exact p1.elim
    · exact p1.elim
theorem wp_sortSet2 {ρ : DEnv} {S : Sto} {a : Ev D} {Q : List D → Sto → Prop} : WpE EX (dSortSet2 a ρ S) Q = WpE EX (a ρ S) fun d S1 => WpE EX (fSortSet2 d S1) Q := wp_bind
theorem sortSet2_l {S : Sto} {ns : List Int} {Q : List D → Sto → Prop} (h : ns.length < 1000) (q : Q ((setI ns).map .int) S) : WpE EX (fSortSet2 (.lst (ns.map .int)) S) Q := by
  have e : lintsOf S (.lst (ns.map .int)) = some ns := ints_of ns
  unfold fSortSet2
  rw [e]
  dsimp only
  rw [if_pos h]; exact q
theorem sortSet2_t {S : Sto} {ns : List Int} {Q : List D → Sto → Prop} (h : ns.length < 1000) (q : Q ((setI ns).map .int) S) : WpE EX (fSortSet2 (.tup (ns.map .int)) S) Q := by
  have e : lintsOf S (.tup (ns.map .int)) = none := rfl
  have e2 : tintsOf (.tup (ns.map .int)) = some ns := ints_of ns
  unfold fSortSet2
  rw [e, e2]
  dsimp only
  rw [if_pos h]; exact q
def blsOf : List D → Option (List Bool)
  | [] => some []
  | .bl b :: r => (blsOf r).map (b :: ·)
  | _ => none
theorem bls_of : ∀ (bs : List Bool), blsOf (bs.map .bl) = some bs
  | [] => rfl
  | b :: bs => by
    show (blsOf (bs.map .bl)).map (b :: ·) = _
    rw [bls_of bs]; rfl
theorem bls_rep {K : PySem.W.Frag} {F : Hp} {m : List Addr} : ∀ {ds : List D} {vs : List V} {bs : List Bool}, RepL K F m ds vs → blsOf ds = some bs → vs = bs.map V.bl
  | _, _, bs, .nil, e => by cases e; rfl
  | d :: ds, v :: vs, bs, .cons a b, e => by
    cases a with
    | bl x =>
      have e' : (blsOf ds).map (x :: ·) = some bs := e
      cases q : blsOf ds with
      | none => rw [q] at e'; cases e'
      | some cs =>
        rw [q] at e'
        cases e'
        rw [bls_rep b q]; rfl
    | _ => cases e
def fAllB (al : Bool) (ds : List D) (S : Sto) : Res D := match ds with
  | [d] => match seqD S d with
    | some (.lst, xs) => match blsOf xs with
      | some bs => .ok (.bl (if al then bs.all id else bs.any id)) S
      | none => .bad
    | _ => .bad
  | _ => .bad
theorem k_all : RLK X (rAll X.K) (fAllB true) := by
  intro H S F m xs ds Q E h r p
  unfold fAllB at p
  split at p
  · cases r with
    | cons a b =>
      cases b
      split at p
      · rename_i ys e1
        obtain ⟨l, vs, rfl, h1, rv, _⟩ := seq_lst h a e1
        split at p
        · rename_i bs e2
          have e3 := bls_rep rv e2
          subst e3
          exact ⟨l, bs, rfl, .inl (.inl h1), p _ H F m h (Ext.refl _ _ _) (.bl _)⟩
        · exact p.elim
      · exact p.elim
  · exact p.elim
theorem k_any : RLK X (rAny X.K) (fAllB false) := by
  intro H S F m xs ds Q E h r p
  unfold fAllB at p
  split at p
  · cases r with
    | cons a b =>
      cases b
      split at p
      · rename_i ys e1
        obtain ⟨l, vs, rfl, h1, rv, _⟩ := seq_lst h a e1
        split at p
        · rename_i bs e2
          have e3 := bls_rep rv e2
          subst e3
          exact ⟨l, bs, rfl, .inl (.inl h1), p _ H F m h (Ext.refl _ _ _) (.bl _)⟩
        · exact p.elim
      · exact p.elim
  · exact p.elim
theorem wp_all {S : Sto} {al : Bool} {bs : List Bool} {Q : D → Sto → Prop} (q : Q (.bl (if al then bs.all id else bs.any id)) S) : WpE EX (fAllB al [.lst (bs.map .bl)] S) Q := by
  unfold fAllB
  dsimp only [seqD]
  rw [bls_of]
  exact q
/-- the one or the other, a new list -/
def orN (f g : List D → Sto → Res (List D)) (ds : List D) (S : Sto) : Res (List D) := match f ds S with
  | .bad => g ds S
  | r => r
theorem k_orN {r r' : List V → Hp → VK → Prop} {f f' : List D → Sto → Res (List D)} (h : RNK X r f) (h' : RNK X r' f') : RNK X (fun xs H Q => r xs H Q ∨ r' xs H Q) (orN f f') := by
  intro H S F m xs ds Q E hs rep p
  unfold orN at p
  split at p
  · exact .inr (h' H S F m xs ds Q E hs rep p)
  · exact .inl (h H S F m xs ds Q E hs rep p)
end
section
variable {S : Sto} {ρ : DEnv}
theorem wp_sortP {ps : List (Int × Int)} {Q : List D → Sto → Prop} (q : Q ((sortP ps).map prD) S) : WpE EX (fSortedP [.lst (ps.map prD)] S) Q := by
  unfold fSortedP
  dsimp only [seqD]
  rw [pairs_of]
  exact q
theorem orN_l {f g : List D → Sto → Res (List D)} {ds : List D} {Q : List D → Sto → Prop} (h : WpE noX (f ds S) Q) : WpE EX (orN f g ds S) Q := by
  obtain ⟨a, T, e, q⟩ := Wp.ex h
  unfold orN; rw [e]; exact q
theorem orN_r {f g : List D → Sto → Res (List D)} {ds : List D} {Q : List D → Sto → Prop} (e : f ds S = .bad) (h : WpE EX (g ds S) Q) : WpE EX (orN f g ds S) Q := by
  unfold orN; rw [e]; exact h
theorem wp_sortI2 {ns : List Int} {Q : List D → Sto → Prop} (q : Q ((sortI ns).map .int) S) : WpE EX (orN fSorted fSortedP [.lst (ns.map .int)] S) Q := orN_l (wp_sorted q)
theorem sortP_nil : sortP [] = [] := by unfold sortP; simp
theorem sortI_nil : sortI [] = [] := by unfold sortI; simp
theorem wp_sortP2 {ps : List (Int × Int)} {Q : List D → Sto → Prop} (q : Q ((sortP ps).map prD) S) : WpE EX (orN fSorted fSortedP [.lst (ps.map prD)] S) Q := by
  cases ps with
  | nil =>
    rw [sortP_nil] at q
    exact orN_l (wp_sorted (ns := []) (by rw [sortI_nil]; exact q))
  | cons p ps => exact orN_r rfl (wp_sortP q)
theorem wp_inI_loc {n : Nat} {neg : Bool} {k : Int} {ns : List Int} {Q : Bool → Sto → Prop} (e : S[n]? = some (.lst (ns.map .int))) (q : Q (if neg then !decide (k ∈ ns) else decide (k ∈ ns)) S) : WpE EX (fInS neg (.int k) (.loc n) S) Q := by
  unfold fInS
  rw [seqD_loc, e]
  dsimp only
  rw [if_pos ⟨rfl, all_ints⟩, inB_ints]
  exact q
end
end DL

/-! DL: for i, x in enumerate(t): t a list or a tuple. -/
namespace DL
open PySem PySem.Spec PyProof.Rows L2
variable {EX : XP} {ES : XPs}
section
open AutoSeq1 (wpAny_loadPart')
/-- what enumerate makes of a tuple -/
def tItO (l : Addr) : Obj := { cls := .type "tuple_iterator", data := .fields #[.ref l, .int 0 0] }
def enuO (it : Addr) : Obj := { cls := .type "enumerate", data := .fields #[.none, .bool false, .ref it, rawInt 0, .none, .none] }
theorem enu_newT (l : Addr) (xs : Array Value) (n : Nat) (dc : Option Addr) (sl : Array (Option Value)) :
    Meets (Builtin.«enumerate.__new__» ⟨[.type "enumerate", .ref l], []⟩) (fun _ R s => s.heap.get? l = some { cls := .type "tuple", dict := dc, data := .seq xs n, slots := sl } ∧
      R (.ok (.ret (.ref (s.heap.push (tItO l)).objs.size))) { s with heap := (s.heap.push (tItO l)).push (enuO s.heap.objs.size) }) :=
  .of_wp fun prog w A R s h => by
    obtain ⟨hp, gg, dd, tks, os⟩ := s
    obtain ⟨hl, h⟩ := h
    have sub0 := sub_enumerate
    have tup0 : Heap.IsTuple (Shared.heap ⟨hp, gg, dd, tks, os⟩) l xs := ⟨_, hl, rfl, n, rfl⟩
    wp_walk using wpAny_loadPart' hl
    refine wpAny_stack_any fun st => wpAny_pure ?_
    split
    · rename_i c _ _ _ _ _
      cases (c == Value.type "enumerate") <;> (wp_walk using wpAny_loadPart' hl, wpAny_pyIter_tuple tup0; exact ⟨_, rfl, h⟩)
    · wp_walk using wpAny_loadPart' hl, wpAny_pyIter_tuple tup0
      exact ⟨_, rfl, h⟩
variable {prog : Program} {w : World} {A : Around} {E : Value → Shared → Prop} {s : Shared}
theorem call_enuT {l : Addr} {xs : Array Value} {Q : Value → Shared → Prop} (ht : s.heap.IsTuple l xs)
    (h : ∀ h', IsEnum h' (s.heap.objs.size + 1) s.heap.objs.size 0 .none → h'.IsTupleIter s.heap.objs.size l 0 → h'.objs.size = s.heap.objs.size + 2 →
      (∀ b o, s.heap.get? b = some o → h'.get? b = some o) → Q (.ref (s.heap.objs.size + 1)) { s with heap := h' }) :
    wpAny (model prog w) A (call (.type "enumerate") [.ref l]) Q E s := by
  obtain ⟨⟨c, dc, dt, sl⟩, hl, hc, n, hd⟩ := ht
  simp only at hc hd
  subst hc hd
  refine callType_new F.called_enumerate (by decide) (F.typeCall_enumerate_1 _) (F.newCall_enumerate_1 _) (fun obj => F.args_object_init_2 obj _) F.entry_enumerate_new (enu_newT l xs n dc sl) ⟨hl, ?_⟩
  have z1 : (s.heap.push (tItO l)).objs.size = s.heap.objs.size + 1 := Heap.size_push ..
  have e1 : IsEnum ((s.heap.push (tItO l)).push (enuO s.heap.objs.size)) (s.heap.objs.size + 1) s.heap.objs.size 0 .none := by
    have q := Heap.get?_push_size (s.heap.push (tItO l)) (o := enuO s.heap.objs.size) rfl
    rwa [z1] at q
  show _ ∧ _
  rw [z1]
  exact ⟨⟨_, e1, rfl⟩, h _ e1 ⟨_, Heap.get?_push_of_some _ (Heap.get?_push_size _ rfl), rfl, rfl⟩ (by rw [Heap.size_push, z1]) fun b o x => Heap.get?_push_of_some _ (Heap.get?_push_of_some _ x)⟩
/-- a tuple's iterator draws its items -/
theorem draws_tup {it l : Addr} {xs : Array Value} (hh : A.handled = none) (hne : l ≠ it) :
    Draws prog w A it [it, l] xs.size (fun i x => xs[i]? = some x) (fun i h => h.IsTupleIter it l i ∧ h.IsTuple l xs) where
  live := fun i h st => let ⟨o, e, _⟩ := st.1; ⟨o, e⟩
  frame := fun i h h' st k => ⟨st.1.at fun o q => k it (by simp) o q, let ⟨o, e, r⟩ := st.2; ⟨o, k l (by simp) o e, r⟩⟩
  item := fun i s Q E hi st hQ => by
    have hx : xs[i]? = some xs[i] := by simp [hi]
    refine RZ.nextOf_tuple_item st.1 st.2 hx fun h' t1 sb => hQ _ h' s.toks hx ⟨t1, ?_⟩ sb
    obtain ⟨o, e, r⟩ := st.2
    exact ⟨o, (sb.2 l hne).trans e, r⟩
  done := fun s Q E st hE => RZ.nextOf_tuple_end hh st.1 st.2 (by simp) hE
theorem draws_end {it l : Addr} {xs : Array Value} {i : Nat} (hh : A.handled = none) (hi : xs.size ≤ i) :
    Draws prog w A it [it, l] i (fun _ _ => True) (fun j h => j = i ∧ h.IsTupleIter it l i ∧ h.IsTuple l xs) where
  live := fun j h st => let ⟨o, e, _⟩ := st.2.1; ⟨o, e⟩
  frame := fun j h h' st k => ⟨st.1, st.2.1.at fun o q => k it (by simp) o q, let ⟨o, e, r⟩ := st.2.2; ⟨o, k l (by simp) o e, r⟩⟩
  item := fun j s Q E hj st _ => absurd st.1 (Nat.ne_of_lt hj)
  done := fun s Q E st hE => RZ.nextOf_tuple_end hh st.2.1 st.2.2 (by simp [hi]) hE
end
def ItE (K : PySem.W.Frag) (a : Addr) : It :=
  ⟨fun i H => ∃ (xs : List V) (x : V), SqT K H a xs ∧ xs[i]? = some x, fun i H v H' => ∃ T x, v = .ref T ∧ H T = none ∧ H' = upd H T (.tup [.int (i : Nat), x]) ∧ ∀ xs, SqT K H a xs → xs[i]? = some x, fun i H => ∃ xs : List V, SqT K H a xs ∧ xs.length ≤ i⟩
theorem turn_enuT {P : Program} {w : World} {K : PySem.W.Frag} {elts : List Expr} {kk : Nat} {tpos : Pos} (a e it : Addr) :
    Turn P w K (.Tuple elts kk tpos) (ItE K a) [e, it] e (fun i h => (∃ old, IsEnum h e it ((i : Nat) : Int) old) ∧ h.IsTupleIter it a i ∧ e ≠ it ∧ a ≠ it ∧ a ≠ e) where
  mem := by simp
  obj := fun i h st b hb => by
    obtain ⟨⟨old, he⟩, ⟨o, ho, hc, hd⟩, _⟩ := st
    rcases (show b = e ∨ b = it by simpa using hb) with z | z
    · subst z; exact ⟨_, he, fun v q => nomatch q⟩
    · subst z; exact ⟨o, ho, fun v q => by rw [hd] at q; cases q⟩
  keep := fun i h h' st k => let ⟨⟨old, he⟩, hi, hne⟩ := st; ⟨⟨old, k e (by simp) _ he⟩, hi.at fun o q => k it (by simp) o q, hne⟩
  item := by
    intro X hP hw hK hc i pins s σ H E I hf st hg
    subst hP hw hK
    obtain ⟨⟨old, he⟩, hit, hne, na, nb⟩ := st
    obtain ⟨xs, x, hq, hx⟩ := hg
    obtain ⟨its, rv, p, hz⟩ := I.tuple hq
    obtain ⟨u, hu, ru⟩ := rv.get hx
    have el : e < s.heap.objs.size := Heap.lt_size he
    have il : it < s.heap.objs.size := by
      obtain ⟨_, q, _⟩ := hit
      exact Heap.lt_size q
    have pt : s.heap.IsTuple a its.toArray := p
    have hi : i < its.toArray.size := by
      have := (List.getElem?_eq_some_iff.mp hu).1
      simpa using this
    have hh : X.A.in1.handled = none := I.ok.hd hc
    refine wpAny_pyNext_enum_itemD (draws_tup hh na) he ⟨hit, pt⟩ hi hne (by simp [hne, Ne.symm nb]) fun y h' tk hy ho hst hT hsz hk => ?_
    have hyu : y = u := by
      rw [List.getElem?_toArray, hu] at hy
      exact (Option.some.inj hy).symm
    subst hyu
    refine ⟨_, rfl, wpAny_letOwnedTupleGo_enum (s := { s with heap := h', toks := tk + 1 }) ho fun h'' he' sb => ?_⟩
    have tup2 : h''.get? s.heap.objs.size = some { cls := .type "tuple", data := .seq #[.int i tk, y] } := (sb.2 _ (Nat.ne_of_gt el)).trans hT
    have new : ObjOk X.prog X.w (upd H s.heap.objs.size (.tup [.int (i : Nat), x])) h'' s.heap.objs.size (.tup [.int (i : Nat), x]) :=
      ⟨by show 2 ≤ sizeLine; decide, [.int i tk, y], .cons ⟨_, rfl⟩ (.cons ru .nil), ⟨_, tup2, rfl, _, rfl⟩⟩
    have I1 : Inv X pins σ (upd H s.heap.objs.size (.tup [.int (i : Nat), x])) { s with heap := h'', toks := tk + 1 } :=
      I.turnedNew (ch := [e, it]) (fun b ob hb q => (sb.2 b (fun z => hb (by simp [z]))).trans (hk b ob (fun z => hb (by simp [z])) (fun z => hb (by simp [z])) q)) hf (Nat.le_refl _) new
    refine ⟨.ref s.heap.objs.size, _, I1, rfl, ⟨_, x, rfl, I.hok.fresh (Nat.le_refl _), rfl, fun ys hy => ?_⟩, ⟨⟨y, ?_⟩, hst.1.at fun o q => (sb.2 it (Ne.symm hne)).trans q, hne, na, nb⟩, fun b hb => ?_⟩
    · rw [I.tuple_inj hy hq]; exact hx
    · have e1 : ((i + 1 : Nat) : Int) = (i : Int) + 1 := by omega
      rw [e1]; exact he'
    · have lb : b < s.heap.objs.size := by
        rcases (show b = e ∨ b = it by simpa using hb) with z | z
        · subst z; exact el
        · subst z; exact il
      rw [upd_ne (Nat.ne_of_lt lb)]
      exact (hf b hb).1
  done := by
    intro X hP hw hK hc i pins s σ H E I hf st hg
    subst hP hw hK
    obtain ⟨⟨old, he⟩, hit, hne, na, nb⟩ := st
    obtain ⟨xs, hq, hx⟩ := hg
    obtain ⟨its, rv, p, hz⟩ := I.tuple hq
    obtain ⟨f0, f1, f2, f3, f4, f5⟩ := hf it (by simp)
    have hl := rv.length
    have pt : s.heap.IsTuple a its.toArray := p
    exact wpAny_pyNext_enum_endD (draws_end (A := X.A.in1) (l := a) (xs := its.toArray) (i := i) (I.ok.hd hc) (by simp; omega)) he ⟨rfl, hit, pt⟩ fun h' eb => ⟨rfl, I.turned (t' := s.toks) (fun b o hb q => eb b o hb q) f0 f1 f3 f4 f5⟩
  self := fun A i s Q E st h => let ⟨⟨_, he⟩, _⟩ := st; wpAny_pyIter_enum he h
def iEnuA (K : PySem.W.Frag) (ta : TA) : TI := fun σ H R => ta σ H fun vs H1 => ∃ a xs, vs = [.ref a] ∧ ((SqL K H1 a xs ∧ R (Ite K a) H1) ∨ (SqT K H1 a xs ∧ R (ItE K a) H1))
theorem pi_enuA {X : Cx} {e : Expr} {ta : TA} {p pos tpos : Pos} {elts : List Expr} {kk : Nat} (hg : Gl X "enumerate") (hm : X.mg "enumerate" = none) (ha : PA X [e] ta) (hs : starEach [e] X.env = [(false, eval e X.env)] := by rfl) :
    PI X (.Tuple elts kk tpos) (.Call (.Name "enumerate" p) [e] [] pos) (iEnuA X.K ta) := by
  refine ⟨fun pins s σ H R I h => ?_⟩
  refine Call_ (ld_blt I hg hm boot_enumerate (PyProof.Rows.callWith_type1 (thn (ha.run pos pins s σ H _ I h) fun us s1 ⟨vs, H1, I1, r1, q1⟩ => ?_) hs rfl))
  obtain ⟨a, xs, ex, q1⟩ := q1
  subst ex
  cases r1 with
  | cons r rr =>
    cases rr
    cases r
    have two : ∀ b ∈ [s1.heap.objs.size + 1, s1.heap.objs.size], s1.heap.objs.size ≤ b := fun b hb => by
      rcases (show b = s1.heap.objs.size + 1 ∨ b = s1.heap.objs.size by simpa using hb) with z | z
      · rw [z]; exact Nat.le_add_right _ _
      · rw [z]; exact Nat.le_refl _
    rcases q1 with ⟨hq, q⟩ | ⟨hq, q⟩
    · obtain ⟨its, rv, pl, hz⟩ := I1.list hq
      refine call_enumerate_list pl.isList fun h' he hit hsz hk => wpAny_pyIter_enum he ?_
      have I2 : Inv X pins σ H1 { s1 with heap := h' } := I1.kept (t' := s1.toks) hk
      exact ⟨s1.heap.objs.size + 1, [s1.heap.objs.size + 1, s1.heap.objs.size], _, _, H1, rfl, I2, turn_enum a (s1.heap.objs.size + 1) s1.heap.objs.size, ⟨⟨.none, he⟩, hit, Nat.succ_ne_self _⟩, fun b hb => I1.fpOk (two b hb) (I1.hok.fresh (two b hb)), q⟩
    · obtain ⟨its, rv, pt, hz⟩ := I1.tuple hq
      have pt' : s1.heap.IsTuple a its.toArray := pt
      have al : a < s1.heap.objs.size := by
        obtain ⟨o, e, _⟩ := pt'
        exact Heap.lt_size e
      refine call_enuT pt' fun h' he hit hsz hk => wpAny_pyIter_enum he ?_
      have I2 : Inv X pins σ H1 { s1 with heap := h' } := I1.kept (t' := s1.toks) hk
      exact ⟨s1.heap.objs.size + 1, [s1.heap.objs.size + 1, s1.heap.objs.size], _, _, H1, rfl, I2, turn_enuT a (s1.heap.objs.size + 1) s1.heap.objs.size, ⟨⟨.none, he⟩, hit, Nat.succ_ne_self _, Nat.ne_of_lt al, Nat.ne_of_lt (Nat.lt_succ_of_lt al)⟩, fun b hb => I1.fpOk (two b hb) (I1.hok.fresh (two b hb)), q⟩
theorem enum_at : ∀ {xs : List D} {k i : Nat} {x : D}, xs[i]? = some x → (enumFrom' k xs)[i]? = some (.tup [.int ((k + i : Nat) : Int), x])
  | y :: xs, k, 0, x, h => by
    have e : y = x := by simpa using h
    subst e; rfl
  | y :: xs, k, i + 1, x, h => by
    have h' : xs[i]? = some x := by simpa using h
    have z := enum_at (k := k + 1) h'
    rw [show k + 1 + i = k + (i + 1) by omega] at z
    exact z
section
variable {X : Cx} {K : PySem.W.Frag} {e : Expr} {elts : List Expr} {kk : Nat} {p pos tpos : Pos} {gs : Ev (List D)} {k : Nat}
theorem wk_enumT {a : Addr} {xs : List D} {vs : List V} {H0 F : Hp} {m : List Addr} (hq : SqT K F a vs) (r : RepL K F m xs vs) (z : xs.length ≤ sizeLine) : Walks K (ItE K a) (enumFrom' 0 xs) H0 F m where
  go := fun i H S F' m' hi x h => by
    rw [enum_len] at hi
    exact ⟨vs, vs[i]'(by rw [← r.length]; omega), sqT_le h.fz (sqT_le x.f hq), by simp⟩
  stop := fun i H S F' m' hi x h => by
    rw [enum_len] at hi
    exact ⟨vs, sqT_le h.fz (sqT_le x.f hq), by rw [← r.length]; omega⟩
  len := by rw [enum_len]; omega
  yld := fun i H S F' m' v H' hi x h y => by
    obtain ⟨T, v1, rfl, hT, rfl, y1⟩ := y
    obtain ⟨d1, e1, r1⟩ := r.getV (y1 vs (sqT_le h.fz (sqT_le x.f hq)))
    have ea := enum_at (k := 0) e1
    rw [Nat.zero_add] at ea
    exact ⟨_, .tup [.int (i : Nat), d1], h.froz hT _, h.frozE hT _, ea, .tup (by show 2 ≤ sizeLine; decide) upd_same (.cons (.int _) (.cons (r1.le (x.le.trans (h.frozE hT _).le)) .nil))⟩
theorem di_enum (hg : Gl X "enumerate") (hm : X.mg "enumerate" = none) (ha : DA X [e] gs) (hs : starEach [e] X.env = [(false, eval e X.env)] := by rfl) :
    DI X (.Tuple elts kk tpos) (.Call (.Name "enumerate" p) [e] [] pos) (dEnum gs) := by
  refine ⟨fun W tk => ?_⟩
  obtain ⟨t, pt, rt⟩ := ha.ex W tk
  refine ⟨_, pi_enuA hg hm pt hs, fun σ H ρ S F m R sl h q => ?_⟩
  refine rt σ H ρ S F m _ sl h ?_
  unfold dEnum at q
  cases eg : gs ρ S with
  | bad => rw [eg] at q; exact q.elim
  | exc y S1 => rw [eg] at q; exact q
  | ok ds S1 =>
    rw [eg] at q
    intro vs H1 F1 m1 h1 x1 r1
    dsimp only [Res.bind] at q
    unfold fEnum at q
    split at q
    · rename_i q' e1
      split at e1
      · cases e1
        cases r1 with
        | cons a b =>
          cases b
          cases a with
          | lst z f rv => exact ⟨_, _, rfl, .inl ⟨.inl (.inl (h1.fz _ _ f)), q _ H1 F1 m1 h1 x1 (wk_enumL (.inl (.inl f)) rv z)⟩⟩
      · cases e1
        cases r1 with
        | cons a b =>
          cases b
          cases a with
          | tup z f rv => exact ⟨_, _, rfl, .inr ⟨.inl (.inl (h1.fz _ _ f)), q _ H1 F1 m1 h1 x1 (wk_enumT (.inl (.inl f)) rv z)⟩⟩
      · cases e1
        cases r1 with
        | cons a b =>
          cases b
          cases a with
          | tupZ z f rv =>
            obtain ⟨o, f, _⟩ := f
            exact ⟨_, _, rfl, .inr ⟨.inl (.inr ⟨o, h1.fz _ _ f⟩), q _ H1 F1 m1 h1 x1 (wk_enumT (.inl (.inr ⟨o, f⟩)) rv z)⟩⟩
      · cases e1
    · rename_i q' e1
      split at e1 <;> cases e1
    · exact q.elim
theorem fEnum_lst {S : Sto} {xs : List D} : fEnum [.lst xs] S = .ok (enumFrom' 0 xs) S := rfl
theorem fEnum_tup {S : Sto} {xs : List D} : fEnum [.tup xs] S = .ok (enumFrom' 0 xs) S := rfl
theorem fEnum_tupZ {S : Sto} {xs : List D} : fEnum [.tupZ xs] S = .ok (enumFrom' 0 xs) S := rfl
/-- enumerated ints as pairs -/
def enI (k : Nat) : List Int → List (Int × Int)
  | [] => []
  | x :: xs => ((k : Nat), x) :: enI (k + 1) xs
theorem enum_ints : ∀ (ns : List Int) (k : Nat), enumFrom' k (ns.map .int) = (enI k ns).map prD
  | [], _ => rfl
  | n :: ns, k => by
    show _ :: enumFrom' (k + 1) (ns.map .int) = _
    rw [enum_ints ns (k + 1)]; rfl
theorem enI_len : ∀ (ns : List Int) (k : Nat), (enI k ns).length = ns.length
  | [], _ => rfl
  | _ :: ns, k => by show (enI (k + 1) ns).length + 1 = _; rw [enI_len ns (k + 1)]; rfl
theorem mem_enI : ∀ {ns : List Int} {k : Nat} {x : Int × Int}, x ∈ enI k ns → ∃ j : Nat, x.1 = ((k + j : Nat) : Int) ∧ ns[j]? = some x.2
  | [], _, _, h => nomatch h
  | n :: ns, k, x, h => by
    rcases List.mem_cons.mp h with e | h
    · subst e; exact ⟨0, rfl, rfl⟩
    · obtain ⟨j, h1, h2⟩ := mem_enI h
      exact ⟨j + 1, by rw [h1]; omega, by simpa using h2⟩
theorem two_a {S : Sto} {x y : O} : (S ++ [x] ++ [y])[S.length]? = some x := by simp
theorem two_b {S : Sto} {x y z : O} : (S ++ [x] ++ [y])[(S ++ [z]).length]? = some y := by simp
theorem set_a {S : Sto} {x y z : O} : (S ++ [x] ++ [y]).set S.length z = S ++ [z] ++ [y] := by
  rw [List.append_assoc, List.set_append_right _ _ (Nat.le_refl _)]; simp
theorem set_b {S : Sto} {x y z u : O} : (S ++ [x] ++ [y]).set (S ++ [z]).length u = S ++ [x] ++ [u] := by
  rw [show (S ++ [z]).length = (S ++ [x]).length by simp, List.set_append_right _ _ (Nat.le_refl _)]; simp
theorem ws_fgC {g : Tg} {b : St'} {d : D} {ds : List D} {ρ : DEnv} {S : Sto} {N B C : DEnv → Sto → Prop} {R : D → Sto → Prop} (h : toN (g d ρ) S fun ρ1 S1 => WsE ES (b ρ1 S1) (fun ρ S => WsE ES (forGo g b ds ρ S) N R B C) R (fun ρ S => N ρ S) (fun ρ S => WsE ES (forGo g b ds ρ S) N R B C)) : WsE ES (forGo g b (d :: ds) ρ S) N R B C := by
  unfold forGo
  cases eg : g d ρ with
  | none => rw [eg] at h; exact h.elim
  | some ρ1 =>
    rw [eg] at h
    have h' : WsE ES (b ρ1 S) (fun ρ S => WsE ES (forGo g b ds ρ S) N R B C) R (fun ρ S => N ρ S) (fun ρ S => WsE ES (forGo g b ds ρ S) N R B C) := h
    dsimp only
    cases eb : b ρ1 S with
    | nx ρ2 S2 => rw [eb] at h'; exact h'
    | ct ρ2 S2 => rw [eb] at h'; exact h'
    | bk ρ2 S2 => rw [eb] at h'; exact h'
    | rt d2 S2 => rw [eb] at h'; exact h'
    | exc _ _ _ => rw [eb] at h'; exact h'
    | bad => rw [eb] at h'; exact h'.elim
theorem ws_fgN {g : Tg} {b : St'} {ρ : DEnv} {S : Sto} {N B C : DEnv → Sto → Prop} {R : D → Sto → Prop} (h : N ρ S) : WsE ES (forGo g b [] ρ S) N R B C := h
end
end DL

/-! DL: for a, b in zip(list, tuple). -/
namespace DL
open PySem PySem.Spec PyProof.Rows L2
variable {EX : XP} {ES : XPs}
def ItM (K : PySem.W.Frag) (a b : Addr) (n1 n2 : Nat) : It :=
  ⟨fun i H => ∃ (xs ys : List V) (x y : V), SqL K H a xs ∧ SqT K H b ys ∧ xs[i]? = some x ∧ ys[i]? = some y ∧ xs.length = n1 ∧ ys.length = n2,
    fun i H v H' => ∃ T x y, v = .ref T ∧ H T = none ∧ H' = upd H T (.tup [x, y]) ∧ (∀ xs, SqL K H a xs → xs[i]? = some x) ∧ ∀ ys, SqT K H b ys → ys[i]? = some y,
    fun i H => ∃ xs ys : List V, SqL K H a xs ∧ SqT K H b ys ∧ xs.length = n1 ∧ ys.length = n2 ∧ (n1 ≤ i ∨ n2 ≤ i)⟩
theorem turn_zipM {P : Program} {w : World} {K : PySem.W.Frag} {elts : List Expr} {kk : Nat} {tpos : Pos} {a b z TI TO i1 i2 : Addr} {n1 n2 : Nat} (D : ZipSep2 z TI TO i1 i2 [i1, a] [i2, b]) (hzz : i1 ≠ z ∧ i2 ≠ z) :
    Turn P w K (.Tuple elts kk tpos) (ItM K a b n1 n2) [z, TI, TO, i1, i2] z (fun i h => IsZip h z TI TO .none ∧ IsTupOf2 h TI (.ref i1) (.ref i2) ∧ (∃ x y, IsTupOf2 h TO x y) ∧ h.IsListIter i1 a i ∧ h.IsTupleIter i2 b i ∧ i ≤ n1 ∧ i ≤ n2) where
  mem := by simp
  obj := fun i h st c hc => by
    obtain ⟨hz, hTI, ⟨x, y, hTO⟩, ⟨o1, e1, _, d1⟩, ⟨o2, e2, _, d2⟩, _⟩ := st
    rcases (show c = z ∨ c = TI ∨ c = TO ∨ c = i1 ∨ c = i2 by simpa using hc) with q | q | q | q | q
    · subst q; exact ⟨_, hz, fun v q => nomatch q⟩
    · subst q; exact ⟨_, hTI, fun v q => nomatch q⟩
    · subst q; exact ⟨_, hTO, fun v q => nomatch q⟩
    · subst q; exact ⟨o1, e1, fun v q => by rw [d1] at q; cases q⟩
    · subst q; exact ⟨o2, e2, fun v q => by rw [d2] at q; cases q⟩
  keep := fun i h h' st k => by
    obtain ⟨hz, hTI, ⟨x, y, hTO⟩, h1, h2, hn⟩ := st
    have kz := k z (by simp) _ hz
    have kT := k TI (by simp) _ hTI
    have kO := k TO (by simp) _ hTO
    exact ⟨kz, kT, ⟨x, y, kO⟩, h1.at (k i1 (by simp)), h2.at (k i2 (by simp)), hn⟩
  item := by
    intro X hP hw hK hc i pins s σ H E I hf st hg
    subst hP hw hK
    obtain ⟨hz, hTI, ⟨x0, y0, hTO⟩, h1, h2, hn1, hn2⟩ := st
    obtain ⟨xs, ys, x, y, hqx, hqy, hx, hy, l1, l2⟩ := hg
    obtain ⟨its, rv, p, _⟩ := I.list hqx
    obtain ⟨its2, rv2, p2, _⟩ := I.tuple hqy
    obtain ⟨u, hu, ru⟩ := rv.get hx
    obtain ⟨u2, hu2, ru2⟩ := rv2.get hy
    have zl : z < s.heap.objs.size := Heap.lt_size hz
    have hh : X.A.in1.handled = none := I.ok.hd hc
    have ha1 : a ≠ i1 := fun e => by
      obtain ⟨o, e1, c1, _⟩ := h1
      obtain ⟨o2, e2, c2, _⟩ := p.isList
      rw [e, e1] at e2
      cases e2
      rw [c1] at c2
      exact absurd (Value.type.inj c2) (by decide)
    have hb2 : b ≠ i2 := fun e => by
      obtain ⟨o, e1, c1, _⟩ := h2
      obtain ⟨o2, e2, c2, _⟩ := p2
      rw [e, e1] at e2
      cases e2
      rw [c1] at c2
      exact absurd (Value.type.inj c2) (by decide)
    have pt : s.heap.IsTuple b its2.toArray := p2
    have i1l : i < its.toArray.size := by
      have := (List.getElem?_eq_some_iff.mp hu).1
      simpa using this
    have i2l : i < its2.toArray.size := by
      have := (List.getElem?_eq_some_iff.mp hu2).1
      simpa using this
    refine wpAny_pyNext_zipD2_item D (Draws.list hh i1 a ha1 its.toArray) (Draws.tuple hh i2 b hb2 its2.toArray) hz hTI hTO ⟨h1, p.isList⟩ ⟨h2, pt⟩ i1l i2l fun y1 y2 h' tk q1 q2 z' TO' s1 s2 hT hsz hk => ?_
    have e1 : y1 = u := by
      rw [List.getElem?_toArray, hu] at q1
      exact (Option.some.inj q1).symm
    have e2 : y2 = u2 := by
      rw [List.getElem?_toArray, hu2] at q2
      exact (Option.some.inj q2).symm
    subst e1 e2
    refine ⟨_, rfl, wpAny_letOwnedTupleGo_zip (s := { s with heap := h', toks := tk }) z' fun h'' z'' sb => ?_⟩
    have tup2 : h''.get? s.heap.objs.size = some { cls := .type "tuple", data := .seq #[y1, y2] } := (sb.2 _ (Nat.ne_of_gt zl)).trans hT
    have new : ObjOk X.prog X.w (upd H s.heap.objs.size (.tup [x, y])) h'' s.heap.objs.size (.tup [x, y]) :=
      ⟨by show 2 ≤ sizeLine; decide, [y1, y2], .cons ru (.cons ru2 .nil), ⟨_, tup2, rfl, _, rfl⟩⟩
    have out : ∀ c o, c ∉ [z, TI, TO, i1, i2] → s.heap.get? c = some o → h''.get? c = some o := fun c o hb q => by
      have hb' : c ≠ z ∧ c ≠ TI ∧ c ≠ TO ∧ c ≠ i1 ∧ c ≠ i2 := by simpa using hb
      exact (sb.2 c hb'.1).trans (hk c o hb'.1 hb'.2.2.1 hb'.2.2.2.1 hb'.2.2.2.2 q)
    have I1 : Inv X pins σ (upd H s.heap.objs.size (.tup [x, y])) { s with heap := h'', toks := tk } := I.turnedNew (t' := tk) (ch := [z, TI, TO, i1, i2]) out hf (Nat.le_refl _) new
    have lt5 : ∀ c ∈ [z, TI, TO, i1, i2], c < s.heap.objs.size := fun c hcm => by
      rcases (show c = z ∨ c = TI ∨ c = TO ∨ c = i1 ∨ c = i2 by simpa using hcm) with q | q | q | q | q
      · subst q; exact zl
      · subst q; exact Heap.lt_size hTI
      · subst q; exact Heap.lt_size hTO
      · subst q; obtain ⟨_, e1, _⟩ := h1; exact Heap.lt_size e1
      · subst q; obtain ⟨_, e2, _⟩ := h2; exact Heap.lt_size e2
    have n1' : i + 1 ≤ n1 := by
      have := (List.getElem?_eq_some_iff.mp hx).1
      omega
    have n2' : i + 1 ≤ n2 := by
      have := (List.getElem?_eq_some_iff.mp hy).1
      omega
    exact ⟨.ref s.heap.objs.size, _, I1, rfl, ⟨_, x, y, rfl, I.hok.fresh (Nat.le_refl _), rfl, fun l hl => by rw [I.list_inj hl hqx]; exact hx, fun l hl => by rw [I.tuple_inj hl hqy]; exact hy⟩,
      ⟨z'', (sb.2 _ D.TIz).trans (hk _ _ D.TIz D.TITO D.TIi1 D.TIi2 hTI), ⟨y1, y2, (sb.2 _ D.TOz).trans TO'⟩, s1.1.at fun o q => (sb.2 _ hzz.1).trans q, s2.1.at fun o q => (sb.2 _ hzz.2).trans q, n1', n2'⟩,
      fun c hcm => by rw [upd_ne (Nat.ne_of_lt (lt5 c hcm))]; exact (hf c hcm).1⟩
  done := by
    intro X hP hw hK hc i pins s σ H E I hf st hg
    subst hP hw hK
    obtain ⟨hz, hTI, ⟨x0, y0, hTO⟩, h1, h2, hn1, hn2⟩ := st
    obtain ⟨xs, ys, hqx, hqy, l1, l2, hend⟩ := hg
    obtain ⟨its, rv, p, _⟩ := I.list hqx
    obtain ⟨its2, rv2, p2, _⟩ := I.tuple hqy
    have r1 := rv.length
    have r2 := rv2.length
    have hh : X.A.in1.handled = none := I.ok.hd hc
    have ha1 : a ≠ i1 := fun e => by
      obtain ⟨o, e1, c1, _⟩ := h1
      obtain ⟨o2, e2, c2, _⟩ := p.isList
      rw [e, e1] at e2
      cases e2
      rw [c1] at c2
      exact absurd (Value.type.inj c2) (by decide)
    have hb2 : b ≠ i2 := fun e => by
      obtain ⟨o, e1, c1, _⟩ := h2
      obtain ⟨o2, e2, c2, _⟩ := p2
      rw [e, e1] at e2
      cases e2
      rw [c1] at c2
      exact absurd (Value.type.inj c2) (by decide)
    have pt : s.heap.IsTuple b its2.toArray := p2
    exact wpAny_pyNext_zipD2_end D (Draws.list hh i1 a ha1 its.toArray) (Draws.tuple hh i2 b hb2 its2.toArray) hz hTI hTO ⟨h1, p.isList⟩ ⟨h2, pt⟩ (by simp; omega) (by simp; omega) (by simp; omega) fun h' tk hk =>
      ⟨rfl, I.turnedL (t' := tk) (ch := [z, TI, TO, i1, i2]) (fun c o hb q => by
        have hb' : c ≠ z ∧ c ≠ TI ∧ c ≠ TO ∧ c ≠ i1 ∧ c ≠ i2 := by simpa using hb
        exact hk c o hb'.1 hb'.2.2.1 hb'.2.2.2.1 hb'.2.2.2.2 q) hf⟩
  self := fun A i s Q E st h => wpAny_pyIter_zip st.1 h
def iZipB (K : PySem.W.Frag) (ta : TA) : TI := fun σ H R => ta σ H fun vs H1 => ∃ a b xs ys, vs = [V.ref a, V.ref b] ∧
  ((SqL K H1 a xs ∧ SqL K H1 b ys ∧ R (Itz K a b) H1) ∨ (SqT K H1 a xs ∧ SqT K H1 b ys ∧ R (RZ.ItzT K a b) H1) ∨ (SqL K H1 a xs ∧ SqT K H1 b ys ∧ R (ItM K a b xs.length ys.length) H1))
theorem pi_zipB {X : Cx} {e e2 : Expr} {ta : TA} {p pos tpos : Pos} {elts : List Expr} {kk : Nat} (hg : Gl X "zip") (hm : X.mg "zip" = none) (ha : PA X [e, e2] ta)
    (hs : starEach [e, e2] X.env = (false, eval e X.env) :: starEach [e2] X.env := by rfl) (hpl : (backTo pos (starEach [e2] X.env)).any (·.1) = false := by rfl) :
    PI X (.Tuple elts kk tpos) (.Call (.Name "zip" p) [e, e2] [] pos) (iZipB X.K ta) := by
  refine ⟨fun pins s σ H R I h => ?_⟩
  refine Call_ (ld_blt I hg hm PyProof.Rows.boot_zip (PyProof.Rows.callWith_type1 (thn (ha.run pos pins s σ H _ I h) fun us s1 ⟨vs, H1, I1, r1, q1⟩ => ?_) hs hpl))
  obtain ⟨a, b, xs, ys, ex, q1⟩ := q1
  subst ex
  cases r1 with
  | cons r rr =>
    cases rr with
    | cons r' rr =>
      cases rr; cases r; cases r'
      generalize hn : s1.heap.objs.size = n at *
      have five : ∀ c, c ∈ [n + 4, n + 2, n + 3, n, n + 1] → FpOk X pins H1 c := fun c hcm => by
        have hle : s1.heap.objs.size ≤ c := by
          rcases (show c = n + 4 ∨ c = n + 2 ∨ c = n + 3 ∨ c = n ∨ c = n + 1 by simpa using hcm) with z | z | z | z | z <;> omega
        exact I1.fpOk hle (I1.hok.fresh hle)
      rcases q1 with ⟨hqx, hqy, q⟩ | ⟨hqx, hqy, q⟩ | ⟨hqx, hqy, q⟩
      · obtain ⟨its, rv, p1, _⟩ := I1.list hqx
        obtain ⟨its2, rv2, p2, _⟩ := I1.list hqy
        have l1 := p1.lt
        have l2 := p2.lt
        refine call_zip_2 p1.isList p2.isList fun h' hz hTI hTO h1 h2 hsz hk => wpAny_pyIter_zip hz ?_
        rw [hn] at hz hTI hTO h1 h2 l1 l2 ⊢
        exact ⟨n + 4, [n + 4, n + 2, n + 3, n, n + 1], _, _, H1, rfl, I1.kept (t' := s1.toks) hk, turn_zip (PySem.W.ktu_apart n a b l1 l2), ⟨hz, hTI, ⟨_, _, hTO⟩, h1, h2⟩, five, q⟩
      · obtain ⟨its, rv, p1, _⟩ := I1.tuple hqx
        obtain ⟨its2, rv2, p2, _⟩ := I1.tuple hqy
        have t1 : s1.heap.IsTuple a its.toArray := p1
        have t2 : s1.heap.IsTuple b its2.toArray := p2
        obtain ⟨o1, ho1, _⟩ := id p1
        obtain ⟨o2, ho2, _⟩ := id p2
        have l1 := Heap.lt_size ho1
        have l2 := Heap.lt_size ho2
        refine RZ.call_zipT t1 t2 fun h' hz hTI hTO h1 h2 hsz hk => wpAny_pyIter_zip hz ?_
        rw [hn] at hz hTI hTO h1 h2 l1 l2 ⊢
        exact ⟨n + 4, [n + 4, n + 2, n + 3, n, n + 1], _, _, H1, rfl, I1.kept (t' := s1.toks) hk, RZ.turn_zipT (PySem.W.ktu_apart n a b l1 l2), ⟨hz, hTI, ⟨_, _, hTO⟩, h1, h2⟩, five, q⟩
      · obtain ⟨its, rv, p1, _⟩ := I1.list hqx
        obtain ⟨its2, rv2, p2, _⟩ := I1.tuple hqy
        have t2 : s1.heap.IsTuple b its2.toArray := p2
        have l1 := p1.lt
        obtain ⟨o2, ho2, _⟩ := id p2
        have l2 := Heap.lt_size ho2
        refine zip_begins2 (begins_list a its.toArray) (begins_tuple b its2.toArray) p1.isList t2 fun h' hz hTI hTO h1 h2 hsz hk => wpAny_pyIter_zip hz ?_
        rw [hn] at hz hTI hTO h1 h2 l1 l2 ⊢
        have na (x y : Nat) (z : x ≠ y) : (show Addr from x) ≠ (show Addr from y) := z
        have la : @LT.lt Nat instLTNat a n := l1
        have lb : @LT.lt Nat instLTNat b n := l2
        have nn (x : Nat) (y w : Nat) (z1 : x ≠ y) (z2 : x ≠ w) : (show Addr from x) ∉ [(show Addr from y), (show Addr from w)] := fun z => by
          rcases List.mem_cons.mp z with z | z
          · exact z1 z
          · exact z2 (List.mem_singleton.mp z)
        have D : ZipSep2 (n + 4) (n + 2) (n + 3) n (n + 1) [n, a] [n + 1, b] := ⟨na _ _ (by omega), na _ _ (by omega), na _ _ (by omega), na _ _ (by omega), List.mem_cons_self .., nn _ _ _ (by omega) (by omega), nn _ _ _ (by omega) (by omega), na _ _ (by omega), List.mem_cons_self ..,
          nn _ _ _ (by omega) (by omega), nn _ _ _ (by omega) (by omega), nn _ _ _ (by omega) (by omega), nn _ _ _ (by omega) (by omega)⟩
        exact ⟨n + 4, [n + 4, n + 2, n + 3, n, n + 1], _, _, H1, rfl, I1.kept (t' := s1.toks) hk, turn_zipM D ⟨na _ _ (by omega), na _ _ (by omega)⟩, ⟨hz, hTI, ⟨_, _, hTO⟩, ⟨_, h1, rfl, rfl⟩, ⟨_, h2, rfl, rfl⟩, Nat.zero_le _, Nat.zero_le _⟩, five, q⟩
def fZipB (ds : List D) (S : Sto) : Res (List D) := match ds with
  | [.lst xs, .lst ys] => .ok (zipD xs ys) S
  | [.tup xs, .tup ys] => .ok (zipD xs ys) S
  | [.lst xs, .tup ys] => .ok (zipD xs ys) S
  | _ => .bad
def dZipB (gs : Ev (List D)) : Ev (List D) := fun ρ S => (gs ρ S).bind fZipB
section
variable {X : Cx} {K : PySem.W.Frag} {e e2 : Expr} {es elts : List Expr} {kk : Nat} {p pos tpos : Pos} {gs : Ev (List D)} {k : Nat}
theorem wk_zipM {a b : Addr} {xs ys : List D} {vs ws : List V} {H0 F : Hp} {m : List Addr} (hq : SqL K F a vs) (hr : SqT K F b ws) (r : RepL K F m xs vs) (q : RepL K F m ys ws) (z : xs.length ≤ sizeLine) : Walks K (ItM K a b vs.length ws.length) (zipD xs ys) H0 F m where
  go := fun i H S F' m' hi x h => by
    rw [zip_len] at hi
    exact ⟨vs, ws, vs[i]'(by rw [← r.length]; omega), ws[i]'(by rw [← q.length]; omega), sqL_le h.fz (sqL_le x.f hq), sqT_le h.fz (sqT_le x.f hr), by simp, by simp, rfl, rfl⟩
  stop := fun i H S F' m' hi x h => by
    rw [zip_len] at hi
    exact ⟨vs, ws, sqL_le h.fz (sqL_le x.f hq), sqT_le h.fz (sqT_le x.f hr), rfl, rfl, by rw [← r.length, ← q.length]; omega⟩
  len := by rw [zip_len]; omega
  yld := fun i H S F' m' v H' hi x h y => by
    obtain ⟨T, v1, v2, rfl, hT, rfl, y1, y2⟩ := y
    obtain ⟨d1, e1, r1⟩ := r.getV (y1 vs (sqL_le h.fz (sqL_le x.f hq)))
    obtain ⟨d2, e2, r2⟩ := q.getV (y2 ws (sqT_le h.fz (sqT_le x.f hr)))
    exact ⟨_, .tup [d1, d2], h.froz hT _, h.frozE hT _, zip_at e1 e2, .tup (by show 2 ≤ sizeLine; decide) upd_same (.cons (r1.le (x.le.trans (h.frozE hT _).le)) (.cons (r2.le (x.le.trans (h.frozE hT _).le)) .nil))⟩
theorem di_zipB (hg : Gl X "zip") (hm : X.mg "zip" = none) (ha : DA X [e, e2] gs) (hs : starEach [e, e2] X.env = (false, eval e X.env) :: starEach [e2] X.env := by rfl) (hpl : (backTo pos (starEach [e2] X.env)).any (·.1) = false := by rfl) :
    DI X (.Tuple elts kk tpos) (.Call (.Name "zip" p) [e, e2] [] pos) (dZipB gs) := by
  refine ⟨fun W tk => ?_⟩
  obtain ⟨t, pt, rt⟩ := ha.ex W tk
  refine ⟨_, pi_zipB hg hm pt hs hpl, fun σ H ρ S F m R sl h q => ?_⟩
  refine rt σ H ρ S F m _ sl h ?_
  unfold dZipB at q
  cases eg : gs ρ S with
  | bad => rw [eg] at q; exact q.elim
  | exc y S1 => rw [eg] at q; exact q
  | ok ds S1 =>
    rw [eg] at q
    intro vs H1 F1 m1 h1 x1 r1
    dsimp only [Res.bind] at q
    unfold fZipB at q
    split at q
    · rename_i q' e1
      split at e1
      · cases e1
        match r1 with
        | .cons (.lst z f rv) (.cons (.lst z2 f2 rv2) .nil) =>
          exact ⟨_, _, _, _, rfl, .inl ⟨.inl (.inl (h1.fz _ _ f)), .inl (.inl (h1.fz _ _ f2)), q _ H1 F1 m1 h1 x1 (wk_zipL (.inl (.inl f)) (.inl (.inl f2)) rv rv2 z)⟩⟩
      · cases e1
        match r1 with
        | .cons (.tup z f rv) (.cons (.tup z2 f2 rv2) .nil) =>
          exact ⟨_, _, _, _, rfl, .inr (.inl ⟨.inl (.inl (h1.fz _ _ f)), .inl (.inl (h1.fz _ _ f2)), q _ H1 F1 m1 h1 x1 (wk_zipT (.inl (.inl f)) (.inl (.inl f2)) rv rv2 z)⟩)⟩
      · cases e1
        match r1 with
        | .cons (.lst z f rv) (.cons (.tup z2 f2 rv2) .nil) =>
          exact ⟨_, _, _, _, rfl, .inr (.inr ⟨.inl (.inl (h1.fz _ _ f)), .inl (.inl (h1.fz _ _ f2)), q _ H1 F1 m1 h1 x1 (wk_zipM (.inl (.inl f)) (.inl (.inl f2)) rv rv2 z)⟩)⟩
      · cases e1
    · rename_i q' e1
      split at e1 <;> cases e1
    · exact q.elim
theorem wp_zipB {ρ : DEnv} {S : Sto} {gs : Ev (List D)} {Q : List D → Sto → Prop} : WpE EX (dZipB gs ρ S) Q = WpE EX (gs ρ S) fun ds S1 => WpE EX (fZipB ds S1) Q := wp_bind
theorem zipB_ll {S : Sto} {xs ys : List D} : fZipB [.lst xs, .lst ys] S = .ok (zipD xs ys) S := rfl
theorem zipB_tt {S : Sto} {xs ys : List D} : fZipB [.tup xs, .tup ys] S = .ok (zipD xs ys) S := rfl
theorem zipB_lt {S : Sto} {xs ys : List D} : fZipB [.lst xs, .tup ys] S = .ok (zipD xs ys) S := rfl
theorem wp_minZ_loc {S : Sto} {n : Nat} {zs : List Int} {Q : D → Sto → Prop} (e : S[n]? = some (.lst (zs.map .int))) (h : zs ≠ []) (q : ∀ m, m ∈ zs → (∀ z ∈ zs, m ≤ z) → Q (.int m) S) : WpE EX (orB (orB fMinL fMinP) (fExT false) [.loc n] S) Q := by
  refine orB_l (orB_l ?_)
  have e2 : lintsOf S (.loc n) = some zs := by
    unfold lintsOf
    rw [seqD_loc, e]
    exact ints_of zs
  unfold fMinL
  dsimp only
  rw [e2]
  cases zs with
  | nil => exact absurd rfl h
  | cons n ns => exact q _ (minI_has ns n).1 (minI_has ns n).2
end
end DL

/-! DL: sorted(t), t a tuple of ints; sorted of either kind. -/
namespace DL
open PySem PySem.Spec PyProof.Rows L2
variable {EX : XP} {ES : XPs}
section
variable {P : Program} {w : World} {A : Around} {E : Value → Shared → Prop} {s : Shared}
/-- collect of a tuple: what it leaves behind -/
def colH (h : Heap) (xs : Array Value) : Heap := (h.push { cls := .type "list", data := .seq ([] : List Value).toArray }).update h.objs.size (Obj.mapSeq (· ++ xs))
theorem colH_size (h : Heap) (xs : Array Value) : (colH h xs).objs.size = h.objs.size + 1 := by unfold colH; rw [Heap.size_update, Heap.size_push]
theorem colH_keep {h : Heap} {xs : Array Value} {b : Addr} {o : Obj} (e : h.get? b = some o) : (colH h xs).get? b = some o := by
  have ne : h.objs.size ≠ b := Nat.ne_of_gt (Heap.lt_size e)
  exact (Heap.get?_update_other _ _ ne).trans (Heap.get?_push_of_some _ e)
theorem collect_tup {Q : List Value → Shared → Prop} {l : Addr} {o : Obj} {xs : Array Value} {n : Nat} (ho : s.heap.get? l = some o) (hc : o.cls = .type "tuple") (hd : o.data = .seq xs n) (hz : xs.size ≤ sizeLine)
    (hQ : Q xs.toList { s with heap := colH s.heap xs }) : wpAny (model P w) A (collect (.ref l)) Q E s := by
  unfold collect
  refine wpAny_bind (wpAny_runValue (codeAny_builtin F.entry_proto_collect ?_))
  rw [Around.under_plainId F.plain_proto_collect _]
  show wpAny _ A.in1 (newList [] >>= fun r => again (.builtin "list.__iadd__" ⟨[r, .ref l], []⟩)) _ _ s
  refine wpAny_bind (wpAny_newObj_type ?_)
  refine wpAny_pure ⟨plainId_quiet F.plain_list_iadd _, codeAny_builtin F.entry_list_iadd ?_⟩
  rw [Around.under_plainId F.plain_list_iadd _]
  show wpAny _ A.in1 (Builtin.List.listExtendWith (.ref s.heap.objs.size) (.ref l) (.ref s.heap.objs.size)) _ _ _
  have made : (s.heap.push { cls := .type "list", data := .seq ([] : List Value).toArray }).get? s.heap.objs.size = some { cls := .type "list", data := .seq #[] 0 } := Heap.get?_push_size _ rfl
  have full := Heap.get?_update_self (Obj.mapSeq (· ++ xs)) made rfl
  have last : wpAny (model P w) A (match Value.ref s.heap.objs.size with
      | Value.ref a => do
        match (← load a).data with
          | Data.seq ys _ => pure ys.toList
          | _ => unsupported "internal:collect"
      | _ => unsupported "internal:collect") Q E { s with heap := colH s.heap xs } := by
    show wpAny _ A (load s.heap.objs.size >>= _) _ _ _
    refine wpAny_bind (wpAny_load full (wpAny_pure ?_))
    rw [show ((#[] : Array Value) ++ xs).toList = xs.toList by simp]
    exact hQ
  refine wpAny_mono (wpAny_extend_seq (hsz := hz) (A := A) (R := fun r t => r = .ok (.ret (.ref s.heap.objs.size)) ∧ t = { s with heap := colH s.heap xs })
    (s := { s with heap := s.heap.push { cls := .type "list", data := .seq ([] : List Value).toArray } }) _ l _ 0 (.inr rfl) made (Heap.get?_push_of_some _ ho) hc hd ⟨rfl, rfl⟩) (fun fn t h => ?_) (fun e t h => ?_)
  · cases fn with
    | done fl =>
      obtain ⟨e, rfl⟩ := h
      cases e
      exact last
    | again c' => exact ⟨h.1, codeAny_mono h.2 fun r t2 hr => by obtain ⟨rfl, rfl⟩ := hr; exact last⟩
  · exact absurd h.1 (by simp)
theorem sorted_tupB {l : Addr} {its : List Value} {ms : List Int} {Q : Value → Shared → Prop} (ht : s.heap.IsTuple l its.toArray) (hi : IntsAre its ms) (hz : its.length ≤ sizeLine)
    (hQ : ∀ h' p (out : Array Value) (c : Nat) (ns : List Int), (∀ b o, s.heap.get? b = some o → h'.get? b = some o) → s.heap.objs.size ≤ p → h'.get? p = some (seqObj "list" out c) →
      IntsAre out.toList ns → ns.Perm ms → ns.Pairwise (· ≤ ·) → Q (.ref p) { s with heap := h' }) :
    wpAny (model P w) A (call (.builtin "sorted") [.ref l]) Q E s := by
  obtain ⟨ob, r1, r2, n, r3⟩ := ht
  refine Calls.call_function_entry kind_sorted plain_sorted entry_sorted (args_sorted1 _) ?_
  unfold Builtin.«sorted»
  refine wpAny_bind (m := checkCount "sorted" 1 1 _) (wpAny_pure ?_)
  refine wpAny_bind (collect_tup r1 r2 r3 (by simpa using hz) ?_)
  have k1 : ∀ b o, s.heap.get? b = some o → (colH s.heap its.toArray).get? b = some o := fun b o e => colH_keep e
  have le1 : s.heap.objs.size ≤ (colH s.heap its.toArray).objs.size := by rw [colH_size]; exact Nat.le_succ _
  generalize colH s.heap its.toArray = h1 at k1 le1 ⊢
  refine wpAny_bind (wpAny_newList ?_ (by simpa using hz))
  have at1 : (h1.push (seqObj "list" its.toArray 0)).get? h1.objs.size = some (seqObj "list" its.toArray 0) := Heap.get?_push_size _ rfl
  refine wpAny_bind (wpAny_holding (wpAny_call_entry (s := { s with heap := h1.push (seqObj "list" its.toArray 0) }) slot_list_sort ⟨_, at1, rfl⟩ entry_list_sort (list_sort_treeAny at1 hi hz fun out ns b1 b2 b3 => ⟨_, rfl, ?_⟩) (args_list_sort _)))
  obtain ⟨c, hc⟩ := sortedHeap_at (vs := its) (out := out) at1
  refine wpAny_pure ⟨_, rfl, hQ _ h1.objs.size out c ns (fun b u e => ?_) le1 hc b1 b2 b3⟩
  have q := k1 b u e
  have lt1 := Heap.lt_size q
  show (sortedHeap (h1.push (seqObj "list" its.toArray 0)) h1.objs.size its out).get? b = some u
  rw [sortedHeap_old (Nat.ne_of_lt lt1) (by rw [size_push']; exact Nat.lt_succ_of_lt lt1)]
  exact Heap.get?_push_of_some _ q
end
def rSortedT (K : PySem.W.Frag) : List V → Hp → VK → Prop := fun vs H Q => ∃ (a : Addr) (ns : List Int), vs = [V.ref a] ∧ SqT K H a (ns.map V.int) ∧
  ∀ (ns' : List Int) (p : Addr), ns'.Perm ns → ns'.Pairwise (· ≤ ·) → H p = none → Q (.ref p) (upd H p (.lst (ns'.map V.int)))
theorem cr_sortedT {X : Cx} : CallR X (.builtin "sorted") (rSortedT X.K) := by
  intro pins s σ H vs us Q I r h
  obtain ⟨a, ns, rfl, hs, q⟩ := h
  obtain ⟨its, rv, pt, hz⟩ := I.tuple hs
  rw [Vals.ref1 r]
  have hi : IntsAre its ns := ints_of_vals rv
  have hl := hi.length
  have line : its.length ≤ sizeLine := by rw [← rv.length]; exact hz
  refine sorted_tupB (show s.heap.IsTuple a its.toArray from pt) hi line fun h' p out c ms k hp hg h1 h2 h3 => ?_
  have line2 : (ms.map V.int).length ≤ sizeLine := by rw [List.length_map, h2.length_eq, ← hl]; exact line
  exact ⟨.ref p, _, I.laid (t' := s.toks) k hp (o := .lst (ms.map V.int)) ⟨line2, out.toList, c, vals_of_ints h1, hg⟩, rfl, q ms p h2 h3 (I.hok.fresh hp)⟩
def fSortedT (ds : List D) (S : Sto) : Res (List D) := match ds with
  | [d] => match tintsOf d with
    | some ns => .ok ((sortI ns).map .int) S
    | none => .bad
  | _ => .bad
theorem k_sortedT {X : Cx} : RNK X (rSortedT X.K) fSortedT := by
  intro H S F m xs ds Q E h r p
  unfold fSortedT at p
  split at p
  · cases r with
    | cons a b =>
      cases b
      split at p
      · rename_i ns e
        obtain ⟨l, rfl, h1⟩ := tints_ok h a e
        have hz : ns.length ≤ sizeLine := by
          unfold tintsOf at e
          split at e
          · rename_i xs
            cases a with
            | tup z f rv =>
              obtain ⟨rfl, rfl⟩ := ints_rep rv e
              simpa using z
          · cases a with
            | tupZ z f rv =>
              obtain ⟨rfl, rfl⟩ := ints_rep rv e
              simpa using z
          · cases e
        refine ⟨l, ns, rfl, h1, fun ms q hp hs hq => ?_⟩
        have e2 : ms = sortI ns := sorted_eq (hp.trans (sortI_perm ns).symm) hs (sortI_sorted ns)
        subst e2
        exact new_n h (rep_ints _) (by rw [List.length_map, (sortI_perm ns).length_eq]; exact hz) p q hq
      · exact p.elim
  · exact p.elim
/-- sorted(x): a list of ints or of pairs of ints, a tuple of ints -/
def fSrt : List D → Sto → Res (List D) := orN (orN fSorted fSortedP) fSortedT
section
variable {S : Sto}
theorem srt_i {ns : List Int} {Q : List D → Sto → Prop} (q : Q ((sortI ns).map .int) S) : WpE EX (fSrt [.lst (ns.map .int)] S) Q := orN_l (wp_sortI2 q)
theorem srt_p {ps : List (Int × Int)} {Q : List D → Sto → Prop} (q : Q ((sortP ps).map prD) S) : WpE EX (fSrt [.lst (ps.map prD)] S) Q := orN_l (wp_sortP2 q)
theorem srt_z {ns : List Int} {Q : List D → Sto → Prop} (q : Q ((sortI ns).map .int) S) : WpE EX (fSrt [.tupZ (ns.map .int)] S) Q := by
  refine orN_r rfl ?_
  unfold fSortedT tintsOf
  dsimp only
  rw [ints_of]
  exact q
theorem srt_t {ns : List Int} {Q : List D → Sto → Prop} (q : Q ((sortI ns).map .int) S) : WpE EX (fSrt [.tup (ns.map .int)] S) Q := by
  refine orN_r rfl ?_
  unfold fSortedT tintsOf
  dsimp only
  rw [ints_of]
  exact q
end
end DL

/-! DL: more small facts. -/
namespace DL
open PySem PySem.Spec PyProof.Rows L2
variable {EX : XP} {ES : XPs}
section
variable {S : Sto}
theorem mulL {xs : List D} {n : Nat} (h : n ≤ 1000) (hx : xs.length ≤ 1000) : fMul (.lst xs) (.int n) S = .ok (.lst (List.replicate n xs).flatten) S := by
  have e : fMul (.lst xs) (.int n) S = (if -(2 ^ 63) ≤ (n : Int) ∧ (n : Int) < 2 ^ 63 ∧ xs.length * (n : Int).toNat ≤ sizeLine then .ok (.lst (List.replicate (n : Int).toNat xs).flatten) S else .bad) := rfl
  rw [e, if_pos ⟨by omega, by omega, by
    rw [Int.toNat_natCast]
    exact Nat.le_trans (Nat.mul_le_mul hx h) (by decide)⟩, Int.toNat_natCast]
theorem mulL1 {a : Int} {n : Nat} (h : n ≤ 1000) : fMul (.lst [.int a]) (.int n) S = .ok (.lst ((List.replicate n a).map .int)) S := by
  rw [mulL h (by simp)]; simp
theorem cutL_drop {xs : List Int} {r : Int} (h : 0 ≤ r) : fCut (.lst (xs.map .int)) (some r) none S = .ok (.lst ((xs.drop r.toNat).map .int)) S := by
  obtain ⟨k, rfl⟩ := Int.eq_ofNat_of_zero_le h
  rw [fCut_lst, cut_drop, List.map_drop, Int.toNat_natCast]
theorem cutL_take {xs : List Int} {r : Int} (h : 0 ≤ r) : fCut (.lst (xs.map .int)) none (some r) S = .ok (.lst ((xs.take r.toNat).map .int)) S := by
  obtain ⟨k, rfl⟩ := Int.eq_ofNat_of_zero_le h
  rw [fCut_lst, cut_take, List.map_take, Int.toNat_natCast]
theorem isN_int {i : Int} : fIsN (.int i) .non S = .ok false S := rfl
theorem isN_non : fIsN .non .non S = .ok true S := rfl
theorem isN_tup {xs : List D} : fIsN (.tup xs) .non S = .ok false S := rfl
theorem notN_int {i : Int} : fNotN (.int i) .non S = .ok true S := rfl
theorem notN_non : fNotN .non .non S = .ok false S := rfl
theorem notN_tup {xs : List D} : fNotN (.tup xs) .non S = .ok true S := rfl
theorem eqv_bl (a b : Bool) : PyData.eqv (D.bl a).py (D.bl b).py = (a == b) := by cases a <;> cases b <;> rfl
theorem fNe_bl {a b : Bool} : fNe (.bl a) (.bl b) S = .ok (!(a == b)) S := by
  rw [fNe_sm (sm_bl a) (sm_bl b) rfl, eqv_bl]
theorem fEq_bl {a b : Bool} : fEq (.bl a) (.bl b) S = .ok (a == b) S := by
  rw [fEq_sm (sm_bl a) (sm_bl b) rfl, eqv_bl]
theorem min_l2 {a b : Int} : orB (orB fMinL fMinP) (fExT false) [.lst [.int a, .int b]] S = .ok (.int (min a b)) S := by
  have e : orB (orB fMinL fMinP) (fExT false) [.lst [.int a, .int b]] S = .ok (.int (if b < a then b else a)) S := rfl
  rw [e]; congr 2; omega
theorem wp_inT {neg : Bool} {k : Int} {ns : List Int} {Q : Bool → Sto → Prop} (q : Q (if neg then !decide (k ∈ ns) else decide (k ∈ ns)) S) : WpE EX (fInS neg (.int k) (.tup (ns.map .int)) S) Q := by
  unfold fInS
  dsimp only [seqD]
  rw [if_pos ⟨rfl, all_ints⟩, inB_ints]
  exact q
end
end DL

/-! DL: a list held still from now on; in, not in: data of any depth. -/
namespace DL
open PySem PySem.Spec PyProof.Rows L2
variable {EX : XP} {ES : XPs}
/-- the list at a name: from now on it stands still -/
def dFrz (i : Nat) : Ev D := fun ρ S => match ρ[i]? with
  | some (some (.loc n)) => match S[n]? with
    | some (.lst ds) => .ok (.lst ds) (S.set n .gone)
    | _ => .bad
  | _ => .bad
theorem de_frz {X : Cx} {pos : Pos} (i : Nat) {x : Str} (hN : X.N[i]? = some x := by rfl) (hv : Vis X.env.scope x := by first | exact Or.inl rfl | exact Or.inr (Or.inl rfl) | exact Or.inr (Or.inr rfl)) (hd : (x == ("__debug__" : Str)) = false := by decide)
    (hcd : (x == ("__classdict__" : Str)) = false := by decide) : DE X (.Name x pos) (dFrz i) := by
  refine ⟨fun W _ => ⟨_, pe_var hN hv hd hcd, fun σ H ρ S F m Q sl hs p => ?_⟩⟩
  unfold dFrz at p
  split at p
  · rename_i n e1
    split at p
    · rename_i ds e2
      obtain ⟨v, ev, r⟩ := sl.2 i _ e1
      cases r with
      | @loc n a l =>
        obtain ⟨fa, ho, ha, vs, rfl, hz, rv⟩ := hs.sto n a _ l e2 (by simp)
        obtain ⟨h2, x2⟩ := hs.freeze l e2 (by simp) ha
        exact ⟨_, ev, p _ H _ m h2 x2 (.lst hz upd_same (rv.le x2.le))⟩
    · exact p.elim
  · exact p.elim
theorem wp_frz {i n : Nat} {ρ : DEnv} {S : Sto} {ds : List D} {Q : D → Sto → Prop} (e1 : ρ[i]? = some (some (.loc n))) (e2 : S[n]? = some (.lst ds)) (q : Q (.lst ds) (S.set n .gone)) : WpE EX (dFrz i ρ S) Q := by
  unfold dFrz
  rw [e1]
  dsimp only
  rw [e2]
  exact q
/-! ### in, not in -/
def inD (neg : Bool) (d : PyData) (es : List PyData) : Bool := if neg then !es.any (fun z => PyData.eqv z d) else es.any fun z => PyData.eqv z d
def rInDeep (neg : Bool) (K : PySem.W.Frag) : R2 := fun x y H Q => ∃ d es, Dp K H x d ∧ SeqAt.shaped d = true ∧ ((Dp K H y (.list es) ∧ SeqAt.shaped (.list es) = true) ∨ (Dp K H y (.tuple es) ∧ SeqAt.shaped (.tuple es) = true)) ∧ Q (.bl (inD neg d es)) H
theorem op_inDeep {X : Cx} (hu : X.A.units + 65 < cLine) : OpR X (compareOp .In) (rInDeep false X.K) := by
  intro pins s σ H x y v u Q I rx ry h
  obtain ⟨d, es, hd, sd, hh, q⟩ := h
  obtain ⟨as, r1⟩ := Dp.reads I d x v hd rx
  have cd := SeqAt.canLay_of_shaped sd
  rcases hh with ⟨he, se⟩ | ⟨he, se⟩
  · obtain ⟨bs, r2⟩ := Dp.reads I _ y u he ry
    exact SeqAt.in_list_reads r2 r1 (SeqAt.canLay_of_shaped se) cd (PyProof.Rows.room_in_shaped sd hu) ⟨.bl _, H, I, rfl, q⟩
  · obtain ⟨bs, r2⟩ := Dp.reads I _ y u he ry
    exact SeqAt.in_tuple_reads r2 r1 (SeqAt.canLay_of_shaped se) cd (PyProof.Rows.room_in_shaped sd hu) ⟨.bl _, H, I, rfl, q⟩
theorem op_notInDeep {X : Cx} (hu : X.A.units + 65 < cLine) : OpR X (compareOp .NotIn) (rInDeep true X.K) := by
  intro pins s σ H x y v u Q I rx ry h
  obtain ⟨d, es, hd, sd, hh, q⟩ := h
  obtain ⟨as, r1⟩ := Dp.reads I d x v hd rx
  have cd := SeqAt.canLay_of_shaped sd
  rcases hh with ⟨he, se⟩ | ⟨he, se⟩
  · obtain ⟨bs, r2⟩ := Dp.reads I _ y u he ry
    exact SeqAt.notIn_list_reads r2 r1 (SeqAt.canLay_of_shaped se) cd (PyProof.Rows.room_in_shaped sd hu) ⟨.bl _, H, I, rfl, q⟩
  · obtain ⟨bs, r2⟩ := Dp.reads I _ y u he ry
    exact SeqAt.notIn_tuple_reads r2 r1 (SeqAt.canLay_of_shaped se) cd (PyProof.Rows.room_in_shaped sd hu) ⟨.bl _, H, I, rfl, q⟩
def fInDeep (neg : Bool) (x y : D) (S : Sto) : Res Bool := match dataOf S x, dataOf S y with
  | some d, some (.lst es) => if SeqAt.shaped d.py = true ∧ SeqAt.shaped (D.lst es).py = true then .ok (inD neg d.py (D.pyL es)) S else .bad
  | some d, some (.tup es) => if SeqAt.shaped d.py = true ∧ SeqAt.shaped (D.tup es).py = true then .ok (inD neg d.py (D.pyL es)) S else .bad
  | _, _ => .bad
theorem k_inDeep {X : Cx} {neg : Bool} : RCK X (rInDeep neg X.K) (fInDeep neg) := by
  intro H S F m x y dx dy Q E h rx ry p
  unfold fInDeep at p
  split at p
  · rename_i d es e1 e2
    split at p
    · rename_i hc
      exact ⟨_, _, data_dp h rx e1, hc.1, .inl ⟨data_dp h ry e2, hc.2⟩, _, rfl, p _ H F m h (Ext.refl _ _ _) rfl⟩
    · exact p.elim
  · rename_i d es e1 e2
    split at p
    · rename_i hc
      exact ⟨_, _, data_dp h rx e1, hc.1, .inr ⟨data_dp h ry e2, hc.2⟩, _, rfl, p _ H F m h (Ext.refl _ _ _) rfl⟩
    · exact p.elim
  · exact p.elim
theorem mono_inDeep {neg : Bool} {K : PySem.W.Frag} : ∀ x y H (Q Q' : VK), (∀ v H', Q v H' → Q' v H') → rInDeep neg K x y H Q → rInDeep neg K x y H Q' :=
  fun _ _ _ _ _ k ⟨d, es, a, b, c, q⟩ => ⟨d, es, a, b, c, k _ _ q⟩
theorem units_in {X : Cx} {k : Nat} (ok : XOk X k) : X.A.units + 65 < cLine := by
  have := ok.room.un
  omega
section
variable {S : Sto}
theorem sm_shaped {d : D} {n : Nat} (h : Sm d n) : SeqAt.shaped d.py = true := by
  unfold SeqAt.shaped
  rw [h.cl]
  have := h.dp
  simp; omega
theorem inDeep_l {neg : Bool} {x : D} {es : List D} {n k : Nat} (hx : Sm x n) (he : SmL es k) : fInDeep neg x (.lst es) S = .ok (inD neg x.py (D.pyL es)) S := by
  unfold fInDeep
  rw [data_isD hx.isD, data_isD (sm_lst he).isD]
  dsimp only
  rw [if_pos ⟨sm_shaped hx, sm_shaped (sm_lst he)⟩]
theorem inDeep_t {neg : Bool} {x : D} {es : List D} {n k : Nat} (hx : Sm x n) (he : SmL es k) : fInDeep neg x (.tup es) S = .ok (inD neg x.py (D.pyL es)) S := by
  unfold fInDeep
  rw [data_isD hx.isD, data_isD (sm_tup he).isD]
  dsimp only
  rw [if_pos ⟨sm_shaped hx, sm_shaped (sm_tup he)⟩]
end
theorem map_int {α : Type} (g : α → Int) (l : List α) : l.map (fun s => D.int (g s)) = (l.map g).map D.int := by rw [List.map_map]; rfl
end DL

/-! DL: if (x := e) op b. -/
namespace DL
open PySem PySem.Spec PyProof.Rows L2
theorem wal_eq {ge : Ev D} {i : Nat} {rest : St'} {ρ : DEnv} {S : Sto} : dSeq (dAsg ge (gN i)) rest ρ S = (ge ρ S).bindS ρ fun d S1 => rest (ρ.set i (some d)) S1 := by
  unfold dSeq dAsg
  cases e : ge ρ S <;> rfl
theorem wal_if {gb : Ev D} {f : D → D → Sto → Res Bool} {i : Nat} {g1 g2 : St'} {ρ : DEnv} {S : Sto} {d : D} (h : i < ρ.length) :
    dIfS (dCm f (dVar i) gb) g1 g2 (ρ.set i (some d)) S = ((gb (ρ.set i (some d)) S).bind fun d2 S2 => f d d2 S2).bindS (ρ.set i (some d)) fun k S1 => if k = true then g1 (ρ.set i (some d)) S1 else g2 (ρ.set i (some d)) S1 := by
  unfold dIfS dCm dVar
  rw [List.getElem?_set_self h]
  rfl
theorem ds_ifw {X : Cx} {pos p1 p2 p3 : Pos} {e b : Expr} {x : Str} {sts sts2 : List Stmt} {ge gb : Ev D} {g1 g2 : St'} (i : Nat) {op : CmpOp} {r : R2} {f : D → D → Sto → Res Bool} (ho : OpR X (compareOp op) r) (hf : RCK X r f) (hN : X.N.Nodup) (he : DE X e ge) (hb : DE X b gb) (hp : DSs X sts g1) (hq : DSs X sts2 g2)
    (hm : behindInMarks op b = false) (hi : X.N[i]? = some x := by rfl) (hx : Loc X.env.scope x := by first | exact Or.inl rfl | exact Or.inr rfl) (hfn : X.fn x = true ∨ X.env.scope.names.lookup x = some .local := by first | exact .inl rfl | exact .inr rfl) :
    DS X (.If (.Compare (.NamedExpr (.Name x p1) e p2) [op] [b] p3) sts sts2 pos) (dSeq (dAsg ge (gN i)) (dIfS (dCm f (dVar i) gb) g1 g2)) := by
  refine ⟨fun W tk => ?_⟩
  obtain ⟨te, pe, re⟩ := he.ex W tk
  obtain ⟨tb, pb, rb⟩ := hb.ex W tk
  obtain ⟨t1, pt1, rt1⟩ := hp.ex W tk
  obtain ⟨t2, pt2, rt2⟩ := hq.ex W tk
  refine ⟨_, ps_ifW (ptw_cmp ho (pew_named hN hi hx (pew_of pe) hfn) pb hm) pt1 pt2, fun σ H ρ S F m N sl h p => ?_⟩
  rw [wal_eq] at p
  refine re σ H ρ S F m _ sl h (Post.bindS sl p fun d S1 v H1 F1 m1 h1 x1 r1 p1 => ?_)
  have sl1 := (sl.le x1.le).set i r1
  by_cases hl : i < ρ.length
  · rw [wal_if hl] at p1
    have pp : Post (fun _ _ (a b : Bool) => a = b) X.mg X.K H1 F1 m1 ((gb (ρ.set i (some d)) S1).bind fun d2 S2 => f d d2 S2) (fun k H3 => if k = true then t1 N (σ.set i (some v)) H3 else t2 N (σ.set i (some v)) H3) (fun c d H' => W c d (σ.set i (some v)) H') :=
      Post.bindS sl1 p1 fun k S3 k' H3 F3 m3 h3 x3 e3 p3 => by
        subst e3
        by_cases hk : k = true
        · rw [if_pos hk] at p3 ⊢; exact rt1 _ H3 _ S3 F3 m3 _ (sl1.le x3.le) h3 p3
        · rw [if_neg hk] at p3 ⊢; exact rt2 _ H3 _ S3 F3 m3 _ (sl1.le x3.le) h3 p3
    exact rb _ H1 _ S1 F1 m1 _ sl1 h1 (Post.bind pp fun d2 S2 v2 H2 F2 m2 h2 x2 r2 p2 => hf H2 S2 F2 m2 v v2 d d2 _ _ h2 (r1.le x2.le) r2 p2)
  · exfalso
    rw [show dIfS (dCm f (dVar i) gb) g1 g2 (ρ.set i (some d)) S1 = .bad by
      unfold dIfS dCm dVar
      rw [List.getElem?_eq_none (by rw [List.length_set]; omega)]
      rfl] at p1
    exact p1
end DL

/-! DL: a comprehension over a list of the store, which stays as it is meanwhile. -/
namespace DL
open PySem PySem.Spec PyProof.Rows L2
variable {EX : XP} {ES : XPs}
open Classical in
noncomputable def lcGoL (n0 : Nat) (xs : List D) (g : Tg) (t : Ev Bool) (e : Ev D) (ρ : DEnv) : List D → Sto → Res (List D)
  | [], S => if S[n0]? = some (.lst xs) then .ok [] S else .bad
  | d :: ds, S => if S[n0]? = some (.lst xs) then (match g d ρ with
    | none => .bad
    | some ρ1 => (t ρ1 S).nox.bind fun k S1 => if k = true then (e ρ1 S1).nox.bind fun y S2 => (lcGoL n0 xs g t e ρ ds S2).bind fun ys S3 => .ok (y :: ys) S3 else lcGoL n0 xs g t e ρ ds S1) else .bad
theorem lcGoL_nil {n0 : Nat} {xs : List D} {g : Tg} {t : Ev Bool} {e : Ev D} {ρ : DEnv} {S : Sto} (h : S[n0]? = some (.lst xs)) : lcGoL n0 xs g t e ρ [] S = .ok [] S := by unfold lcGoL; exact if_pos h
theorem lcGoL_cons {n0 : Nat} {xs : List D} {g : Tg} {t : Ev Bool} {e : Ev D} {ρ : DEnv} {d : D} {ds : List D} {S : Sto} (h : S[n0]? = some (.lst xs)) : lcGoL n0 xs g t e ρ (d :: ds) S = match g d ρ with
    | none => .bad
    | some ρ1 => (t ρ1 S).nox.bind fun k S1 => if k = true then (e ρ1 S1).nox.bind fun y S2 => (lcGoL n0 xs g t e ρ ds S2).bind fun ys S3 => .ok (y :: ys) S3 else lcGoL n0 xs g t e ρ ds S1 := by
  rw [lcGoL]; exact if_pos h
theorem lcGoL_bad {n0 : Nat} {xs : List D} {g : Tg} {t : Ev Bool} {e : Ev D} {ρ : DEnv} {ds : List D} {S : Sto} (h : ¬ S[n0]? = some (.lst xs)) : lcGoL n0 xs g t e ρ ds S = .bad := by
  cases ds <;> (rw [lcGoL]; exact if_neg h)
noncomputable def goL (g : Tg) (t : Ev Bool) (e : Ev D) (ρ : DEnv) (d : D) (S : Sto) : Res (List D) := match d with
  | .loc n => match S[n]? with
    | some (.lst xs) => lcGoL n xs g t e ρ xs S
    | _ => .bad
  | _ => .bad
noncomputable def dLcL (src : Ev D) (g : Tg) (t : Ev Bool) (e : Ev D) (vs : List Nat) : Ev (List D) := fun ρ S => (src ρ S).bind fun d S1 => goL g t e (wipeE ρ vs) d S1
section
variable {X : Cx} {pos : Pos} {e tg it : Expr} {ge : Ev D} {gc : Ev Bool}
theorem lc_readL {mg : Str → Option Value} {K : PySem.W.Frag} {t0 : TE} {g : TG} {tt : TT} {te : TE} {vs ix : List Nat} {src : Ev D} {gg : Tg} {W : WX}
    (ri : ∀ σ H ρ S F m Q, Slots K F m ρ σ → HSt K H S F m → Post (Rep K) mg K H F m (src ρ S) Q (fun c d H' => W c d σ H') → t0 σ H Q)
    (rg : ∀ v σ H ρ S F m d ρ' (Q : St → Hp → Prop), Slots K F m ρ σ → HSt K H S F m → Rep K F m d v → gg d ρ = some ρ' → (∀ σ', Slots K F m ρ' σ' → (∀ vs : List Nat, (∀ i ∈ ix, i ∈ vs) → wipe σ' vs = wipe σ vs) → Q σ' H) → g v σ H Q)
    (rt : ∀ σ H ρ S F m Q E, Slots K F m ρ σ → HSt K H S F m → Post (fun _ _ (a b : Bool) => a = b) mg K H F m (gc ρ S).nox Q E → tt σ H Q)
    (re : ∀ σ H ρ S F m Q E, Slots K F m ρ σ → HSt K H S F m → Post (Rep K) mg K H F m (ge ρ S).nox Q E → te σ H Q) (hix : ∀ i ∈ ix, i ∈ vs) :
    ∀ σ H ρ S F m Q, Slots K F m ρ σ → HSt K H S F m → PostN mg K H F m (dLcL src gg gc ge vs ρ S) Q (fun c d H' => W c d σ H') → tLc (iList K t0) g tt te vs σ H Q := by
  intro σ H ρ S F m Q sl h p
  refine ri σ H ρ S F m _ sl h ?_
  unfold dLcL at p
  cases es : src ρ S with
  | bad => rw [es] at p; exact p
  | exc x S1 => rw [es] at p; exact p
  | ok dd S1 =>
    rw [es] at p
    intro v1 H1 F1 m1 h1 x1 r1
    have p1 := PostN.later x1 p
    dsimp only [Res.bind] at p1
    cases r1 with
    | @loc n0 a en =>
      unfold goL at p1
      dsimp only at p1
      cases e0 : S1[n0]? with
      | none => rw [e0] at p1; exact p1.elim
      | some o =>
        cases o with
        | lst ds =>
          rw [e0] at p1
          dsimp only at p1
          have look : ∀ {H2 : Hp} {S2 : Sto} {F2 : Hp} {m2 : List Addr}, HSt K H2 S2 F2 m2 → Ext H1 H2 F1 F2 m1 m2 → S2[n0]? = some (.lst ds) → ∃ ws, H2 a = some (.lst ws) ∧ ds.length ≤ sizeLine ∧ RepL K F2 m2 ds ws := fun {H2 S2 F2 m2} h2 x2 e2 => by
            obtain ⟨-, ho, hH, ws, rfl, z, q⟩ := h2.sto n0 a _ (x2.le.p _ _ en) e2 (by simp)
            exact ⟨ws, hH, z, q⟩
          obtain ⟨w0, hw0, z0, -⟩ := look h1 (Ext.refl _ _ _) e0
          refine ⟨a, rfl, ⟨w0, .inl (.inl hw0)⟩, ?_⟩
          intro D0 nD
          have nF : F1 D0 = none := by
            cases e : F1 D0 with
            | none => rfl
            | some u => rw [h1.fz D0 u e] at nD; cases nD
          have nM : D0 ∉ m1 := fun z => h1.dom D0 z nD
          refine ⟨fun i n H' => n = ds.length - i ∧ i ≤ ds.length ∧ ∃ S' F' m' acc accV, HSt K H' S' F' m' ∧ Ext H1 H' F1 F' m1 m' ∧ F' D0 = none ∧ D0 ∉ m' ∧ H' D0 = some (.lst accV) ∧ RepL K F' m' acc accV ∧ acc.length ≤ i ∧
              lcGoL n0 ds gg gc ge (wipeE ρ vs) ds S1 = (lcGoL n0 ds gg gc ge (wipeE ρ vs) (ds.drop i) S').bind fun ys S9 => .ok (acc ++ ys) S9,
            ⟨_, rfl, Nat.zero_le _, S1, F1, m1, [], [], h1.side nF nM, (Ext.refl _ _ _).side nD, nF, nM, upd_same, .nil, Nat.le_refl _, ?_⟩, ?_⟩
          · rw [List.drop_zero]
            cases lcGoL n0 ds gg gc ge (wipeE ρ vs) ds S1 <;> rfl
          rintro i n H2 ⟨rfl, hil, S2, F2, m2, acc, accV, h2, x2, n2, o2, d2, r2, l2, eq2⟩
          by_cases hlt : i < ds.length
          · have ed : ds[i]? = some ds[i] := List.getElem?_eq_getElem hlt
            have edr : ds.drop i = ds[i] :: ds.drop (i + 1) := List.drop_eq_getElem_cons hlt
            rw [edr] at eq2
            by_cases eS : S2[n0]? = some (.lst ds)
            · obtain ⟨ws, hw, -, rw2⟩ := look h2 x2 eS
              rw [lcGoL_cons eS] at eq2
              refine .inr ⟨⟨ws, ws[i]'(by rw [← rw2.length]; exact hlt), .inl (.inl hw), by simp⟩, _, fun H' q => q, ?_⟩
              rintro x H3 ⟨e3, hy⟩
              have e3' := e3.symm
              subst e3'
              have hx := hy ws (.inl (.inl hw))
              obtain ⟨d, ed', r3⟩ := rw2.getV hx
              rw [ed] at ed'
              cases ed'
              have lt : ds.length - (i + 1) < ds.length - i := by omega
              cases eg : gg ds[i] (wipeE ρ vs) with
              | none =>
                rw [eg] at eq2
                rw [show lcGoL n0 ds gg gc ge (wipeE ρ vs) ds S1 = .bad from eq2] at p1
                exact p1.elim
              | some ρ3 =>
                rw [eg] at eq2
                dsimp only at eq2
                have slw : Slots K F2 m2 (wipeE ρ vs) (wipe σ vs) := ((sl.le x1.le).le x2.le).wipe vs
                refine rg x (wipe σ vs) H2 (wipeE ρ vs) S2 F2 m2 ds[i] ρ3 _ slw h2 r3 eg fun σ3 sl3 w3 => ⟨by rw [w3 vs hix, wipe_wipe], ?_⟩
                refine rt σ3 H2 ρ3 S2 F2 m2 _ (fun _ _ _ => True) sl3 h2 ?_
                cases et : (gc ρ3 S2).nox with
                | bad =>
                  rw [et] at eq2
                  rw [show lcGoL n0 ds gg gc ge (wipeE ρ vs) ds S1 = .bad from eq2] at p1
                  exact p1.elim
                | exc y S4 =>
                  rw [et] at eq2
                  cases eq9 : gc ρ3 S2 <;> rw [eq9] at et <;> cases et
                | ok k S4 =>
                  rw [et] at eq2
                  dsimp only [Res.bind] at eq2
                  intro b H4 F4 m4 h4 x4 eb
                  subst eb
                  obtain ⟨n4, o4⟩ := x4.out n2 o2 (by rw [d2]; simp)
                  have d4 : H4 D0 = some (.lst accV) := x4.k _ _ d2 o2
                  by_cases hk : k = true
                  · rw [if_pos hk] at eq2 ⊢
                    refine re σ3 H4 ρ3 S4 F4 m4 _ (fun _ _ _ => True) (sl3.le x4.le) h4 ?_
                    cases ee : (ge ρ3 S4).nox with
                    | bad =>
                      rw [ee] at eq2
                      rw [show lcGoL n0 ds gg gc ge (wipeE ρ vs) ds S1 = .bad from eq2] at p1
                      exact p1.elim
                    | exc y S5 => cases eq9 : ge ρ3 S4 <;> rw [eq9] at ee <;> cases ee
                    | ok y S5 =>
                      rw [ee] at eq2
                      intro v H5 F5 m5 h5 x5 r5
                      obtain ⟨n5, o5⟩ := x5.out n4 o4 (by rw [d4]; simp)
                      have d5 : H5 D0 = some (.lst accV) := x5.k _ _ d4 o4
                      have xx := x4.trans x5
                      refine ⟨accV, d5, ?_, _, lt, rfl, hlt, S5, F5, m5, acc ++ [y], accV ++ [v], h5.side n5 o5, (x2.trans xx).side nD, n5, o5, upd_same, (r2.le xx.le).append (.cons r5 .nil), by rw [List.length_append]; exact Nat.succ_le_succ l2, ?_⟩
                      · rw [← r2.length]
                        exact Nat.lt_of_lt_of_le (Nat.lt_of_le_of_lt l2 hlt) z0
                      · rw [eq2]
                        dsimp only [Res.bind]
                        cases lcGoL n0 ds gg gc ge (wipeE ρ vs) (ds.drop (i + 1)) S5 with
                        | ok ys S9 => simp [Res.bind]
                        | exc _ _ => rfl
                        | bad => rfl
                  · rw [if_neg hk] at eq2 ⊢
                    exact ⟨_, lt, rfl, hlt, S4, F4, m4, acc, accV, h4, x2.trans x4, n4, o4, d4, r2.le x4.le, Nat.le_succ_of_le l2, eq2⟩
            · exfalso
              rw [lcGoL_bad eS] at eq2
              rw [show lcGoL n0 ds gg gc ge (wipeE ρ vs) ds S1 = .bad from eq2] at p1
              exact p1
          · have ei : i = ds.length := by omega
            subst ei
            rw [List.drop_length] at eq2
            by_cases eS : S2[n0]? = some (.lst ds)
            · obtain ⟨ws, hw, -, rw2⟩ := look h2 x2 eS
              have e3 : lcGoL n0 ds gg gc ge (wipeE ρ vs) ds S1 = .ok acc S2 := by rw [eq2, lcGoL_nil eS]; simp [Res.bind]
              rw [e3] at p1
              refine .inl ⟨⟨ws, .inl (.inl hw), by rw [← rw2.length]; exact Nat.le_refl _⟩, ?_⟩
              exact p1 D0 accV H2 F2 m2 h2 x2 nD n2 o2 d2 r2 (Nat.le_trans l2 z0)
            · exfalso
              rw [lcGoL_bad eS] at eq2
              rw [show lcGoL n0 ds gg gc ge (wipeE ρ vs) ds S1 = .bad from eq2] at p1
              exact p1
        | _ => rw [e0] at p1; exact p1.elim
    | _ => exact p1.elim
theorem dn_lcL {k : Nat} {scope : Scope} {own : List (Str × Nat)} {src : Ev D} {gg : Tg} {ix : List Nat} {ifs : List Expr} (ok : XOk X k) (hi : DE X it src) (bk : blkC X.N X.env.scope scope own = true)
    (hg : AllBlkK X k scope fun Y => DG Y tg gg ix) (ht : AllBlkK X k scope fun Y => DTs Y ifs gc) (he : AllBlkK X k scope fun Y => DE Y e ge) (hix : ∀ i ∈ ix, i ∈ own.map (·.2) := by decide) (hs : ∀ x, foldedSetIterable it X.env x = pure x := by intro _; rfl) :
    DN X (.ListComp e [⟨tg, it, ifs, 0⟩] scope pos) (dLcL src gg gc ge (own.map (·.2))) := by
  refine ⟨fun W tk => ?_⟩
  obtain ⟨t0, p0, r0⟩ := hi.ex W tk
  obtain ⟨g, pg, rg⟩ := blk_g (AllBlkK.all ok hg)
  obtain ⟨tt, pt, rt⟩ := blk_t (AllBlkK.all ok ht)
  obtain ⟨te, pe, re⟩ := blk_e (AllBlkK.all ok he)
  exact ⟨_, pe_lc ok.calm ok.nd (pi_list p0) (blkOk_by bk) pg pt pe hs, lc_readL r0 rg rt re hix⟩
end
section
variable {ρ : DEnv} {S : Sto}
theorem lc_mapL {α : Type} {n : Nat} {g : Tg} {t : Ev Bool} {e : Ev D} {Q : List D → Sto → Prop} (enc : α → D) (p : α → Bool) (f : α → D) (xs : List α) (e0 : S[n]? = some (.lst (xs.map enc)))
    (h : ∀ x ∈ xs, toN (g (enc x) ρ) S fun ρ1 _ => WpE noX (t ρ1 S) fun k S1 => k = p x ∧ S1 = S ∧ (p x = true → WpE noX (e ρ1 S) fun y S2 => y = f x ∧ S2 = S)) (q : Q ((xs.filter p).map f) S) : WpE EX (goL g t e ρ (.loc n) S) Q := by
  have go : ∀ ys : List α, (∀ x ∈ ys, x ∈ xs) → lcGoL n (xs.map enc) g t e ρ (ys.map enc) S = .ok ((ys.filter p).map f) S := by
    intro ys
    induction ys with
    | nil => intro _; exact lcGoL_nil e0
    | cons x ys ih =>
      intro hs
      have h1 := h x (hs x (List.mem_cons_self ..))
      have h2 := ih fun y hy => hs y (List.mem_cons_of_mem _ hy)
      rw [List.map_cons, lcGoL_cons e0]
      cases eg : g (enc x) ρ with
      | none => rw [eg] at h1; exact h1.elim
      | some ρ1 =>
        rw [eg] at h1
        obtain ⟨k, S1, et, rfl, rfl, he⟩ := Wp.ex (show WpE noX (t ρ1 S) _ from h1)
        dsimp only
        rw [et]
        dsimp only [Res.nox, Res.bind]
        by_cases hp : p x = true
        · obtain ⟨y, S2, ee, rfl, rfl⟩ := Wp.ex (he hp)
          rw [if_pos hp, ee]
          dsimp only [Res.nox, Res.bind]
          rw [h2]
          dsimp only [Res.bind]
          rw [List.filter_cons_of_pos hp, List.map_cons]
        · rw [if_neg hp, h2, List.filter_cons_of_neg hp]
  unfold goL
  dsimp only
  rw [e0]
  dsimp only
  rw [go xs fun _ h => h]
  exact q
theorem wp_lcL {src : Ev D} {g : Tg} {t : Ev Bool} {e : Ev D} {vs : List Nat} {Q : List D → Sto → Prop} : WpE EX (dLcL src g t e vs ρ S) Q = WpE EX (src ρ S) fun d S1 => WpE EX (goL g t e (wipeE ρ vs) d S1) Q := by unfold dLcL; rw [wp_bind]
end
end DL

/-! DL: a is True. -/
namespace DL
open PySem PySem.Spec PyProof.Rows L2
def fIsB (x y : D) (S : Sto) : Res Bool := match x, y with
  | .bl a, .bl b => .ok (decide (a = b)) S
  | _, _ => .bad
def fNotB (x y : D) (S : Sto) : Res Bool := match x, y with
  | .bl a, .bl b => .ok (!decide (a = b)) S
  | _, _ => .bad
section
variable {X : Cx}
theorem k_isB : RCK X rIsB fIsB := by
  intro H S F m x y dx dy Q E h rx ry p
  cases rx <;> cases ry <;> first | exact p.elim | exact ⟨_, _, rfl, rfl, _, rfl, p _ H F m h (Ext.refl _ _ _) rfl⟩
theorem k_notB : RCK X rNotB fNotB := by
  intro H S F m x y dx dy Q E h rx ry p
  cases rx <;> cases ry <;> first | exact p.elim | exact ⟨_, _, rfl, rfl, _, rfl, p _ H F m h (Ext.refl _ _ _) rfl⟩
end
theorem mono_isB : ∀ x y H (Q Q' : VK), (∀ v H', Q v H' → Q' v H') → rIsB x y H Q → rIsB x y H Q' := fun _ _ _ _ _ h ⟨a, b, e1, e2, q⟩ => ⟨a, b, e1, e2, h _ _ q⟩
theorem mono_notB : ∀ x y H (Q Q' : VK), (∀ v H', Q v H' → Q' v H') → rNotB x y H Q → rNotB x y H Q' := fun _ _ _ _ _ h ⟨a, b, e1, e2, q⟩ => ⟨a, b, e1, e2, h _ _ q⟩
theorem fIsB_bl {a b : Bool} {S : Sto} : fIsB (.bl a) (.bl b) S = .ok (decide (a = b)) S := rfl
theorem fNotB_bl {a b : Bool} {S : Sto} : fNotB (.bl a) (.bl b) S = .ok (!decide (a = b)) S := rfl
end DL

/-! DL: texts: str(int), join, f-strings; a list held still between two statements. -/
namespace DL
open PySem PySem.Spec PyProof.Rows L2
variable {EX : XP} {ES : XPs}
def intT (i : Int) : Str := toString i
def fStrI (ds : List D) (S : Sto) : Res D := match ds with
  | [.int i] => if i.natAbs.log2 < 1920 ∧ (intT i).length ≤ sizeLine then .ok (.str (intT i)) S else .bad
  | _ => .bad
def strsOf : List D → Option (List Str)
  | [] => some []
  | .str y :: r => (strsOf r).map (y :: ·)
  | _ => none
theorem strs_of : ∀ (ys : List Str), strsOf (ys.map .str) = some ys
  | [] => rfl
  | y :: ys => by
    show (strsOf (ys.map .str)).map (y :: ·) = _
    rw [strs_of ys]; rfl
section
variable {K : PySem.W.Frag} {F : Hp} {m : List Addr}
theorem strs_rep : ∀ {ds : List D} {vs : List V} {ys : List Str}, RepL K F m ds vs → strsOf ds = some ys → vs = ys.map .str
  | [], _, ys, .nil, e => by cases e; rfl
  | d :: ds, _, ys, .cons a b, e => by
    cases d with
    | str y =>
      have e' : (strsOf ds).map (y :: ·) = some ys := e
      cases q : strsOf ds with
      | none => rw [q] at e'; cases e'
      | some zs =>
        rw [q] at e'
        cases e'
        cases a
        rw [strs_rep b q]; rfl
    | _ => cases e
end
section
variable {X : Cx}
theorem k_strI : RLK X (fun xs H Q => ∃ i, xs = [.int i] ∧ i.natAbs.log2 < 1920 ∧ Q (.str (toString i)) H) fStrI := by
  intro H S F m xs ds Q E h r p
  unfold fStrI at p
  split at p
  · rename_i i
    split at p
    · rename_i hc
      cases r with
      | cons a b =>
        cases b
        cases a
        exact ⟨i, rfl, hc.1, p _ H F m h (Ext.refl _ _ _) (.str _ hc.2)⟩
    · exact p.elim
  · exact p.elim
/-- sep.join(some texts) -/
def fJoin (a : Str) (y : D) (S : Sto) : Res D := match y with
  | .lst ds => match strsOf ds with
    | some ys => if (ys.map (·.length)).sum + ys.length * a.length ≤ 16777216 ∧ (Txt.join a ys).length ≤ sizeLine then .ok (.str (Txt.join a ys)) S else .bad
    | none => .bad
  | _ => .bad
def dJoin (go ge : Ev D) : Ev D := fun ρ S => (go ρ S).bind fun x S1 => match x with
  | .str a => (ge ρ S1).bind fun y S2 => fJoin a y S2
  | _ => .bad
variable {o e : Expr} {go ge : Ev D}
theorem de_join {apos pos : Pos} (ho : DE X o go) (he : DE X e ge) (hs : starEach [e] X.env = [(false, eval e X.env)] := by rfl) (hbase : attributeBase o "join" X.env (eval o X.env) = eval o X.env := by rfl) (hline : (apos.endLine == pos.line) = true := by rfl) :
    DE X (.Call (.Attribute o "join" apos) [e] [] pos) (dJoin go ge) := by
  refine ⟨fun W tk => ?_⟩
  obtain ⟨to, po, ro⟩ := ho.ex W tk
  obtain ⟨te, pe, re⟩ := he.ex W tk
  refine ⟨_, pe_join po pe hs hbase hline, fun σ H ρ S F m Q sl h p => ?_⟩
  refine ro σ H ρ S F m _ sl h (Post.bind p fun x S1 v H1 F1 m1 h1 x1 r1 p1 => ?_)
  cases r1 with
  | str a hz =>
    refine ⟨⟨a, rfl⟩, re σ H1 ρ S1 F1 m1 _ (sl.le x1.le) h1 (Post.bind p1 fun y S2 w H2 F2 m2 h2 x2 r2 p2 => ?_)⟩
    unfold fJoin at p2
    cases r2 with
    | @lst b ds vs hz2 f q =>
      dsimp only at p2
      split at p2
      · rename_i ys ey
        split at p2
        · rename_i hc
          have ev := strs_rep q ey
          subst ev
          exact ⟨a, b, ys, rfl, rfl, .inl (.inl (.inl (h2.fz _ _ f))), hc.1, p2 _ H2 F2 m2 h2 (Ext.refl _ _ _) (.str _ hc.2)⟩
        · exact p2.elim
      · exact p2.elim
    | _ => exact p2.elim
  | _ => exact p1.elim
/-! ### f-strings -/
def dFmt (ge : Ev D) : Ev D := fun ρ S => (ge ρ S).bind fun x S1 => match x with
  | .str y => if y.length ≤ sizeLine then .ok (.str y) S1 else .bad
  | .int i => if i.natAbs.log2 < 1920 ∧ (intT i).length ≤ sizeLine then .ok (.str (intT i)) S1 else .bad
  | _ => .bad
theorem de_fmt {pos : Pos} (he : DE X e ge) : DE X (.FormattedValue e (-1) none pos) (dFmt ge) := by
  refine ⟨fun W tk => ?_⟩
  obtain ⟨te, pe, re⟩ := he.ex W tk
  refine ⟨_, pe_fmt pe, fun σ H ρ S F m Q sl h p => ?_⟩
  refine re σ H ρ S F m _ sl h (Post.bind p fun x S1 v H1 F1 m1 h1 x1 r1 p1 => ?_)
  cases r1 with
  | str y hz =>
    dsimp only at p1
    rw [if_pos hz] at p1
    exact .inl ⟨y, rfl, hz, p1 _ H1 F1 m1 h1 (Ext.refl _ _ _) (.str _ hz)⟩
  | int i =>
    dsimp only at p1
    split at p1
    · rename_i hc
      exact .inr ⟨i, rfl, hc.1, p1 _ H1 F1 m1 h1 (Ext.refl _ _ _) (.str _ hc.2)⟩
    · exact p1.elim
  | _ => exact p1.elim
/-- the parts of an f-string behind what is there -/
structure DJ (X : Cx) (es : List Expr) (g : Str → Ev Str) : Prop where
  ex : ∀ W, Takes X W → ∃ ts, PJ X es ts ∧ ∀ acc σ H ρ S F m (Q : Str → Hp → Prop), Slots X.K F m ρ σ → HSt X.K H S F m → Post (fun _ _ (a b : Str) => a = b) X.mg X.K H F m (g acc ρ S) Q (fun c d H' => W c d σ H') → tJs ts acc σ H Q
def jNil : Str → Ev Str := fun acc _ S => .ok acc S
def jCons (ge : Ev D) (r : Str → Ev Str) : Str → Ev Str := fun acc ρ S => (ge ρ S).bind fun x S1 => match x with
  | .str y => if (acc ++ y).length ≤ sizeLine then r (acc ++ y) ρ S1 else .bad
  | _ => .bad
def dJs (g : Str → Ev Str) : Ev D := fun ρ S => (g Str.empty ρ S).bind fun s S1 => if s.length ≤ sizeLine then .ok (.str s) S1 else .bad
theorem dj_nil : DJ X [] jNil := ⟨fun W tk => ⟨[], .nil, fun acc σ H ρ S F m Q sl h p => p _ H F m h (Ext.refl _ _ _) rfl⟩⟩
theorem dj_cons {es : List Expr} {g : Str → Ev Str} (he : DE X e ge) (hr : DJ X es g) : DJ X (e :: es) (jCons ge g) := by
  refine ⟨fun W tk => ?_⟩
  obtain ⟨te, pe, re⟩ := he.ex W tk
  obtain ⟨ts, ps, rs⟩ := hr.ex W tk
  refine ⟨te :: ts, .cons pe ps, fun acc σ H ρ S F m Q sl h p => ?_⟩
  refine re σ H ρ S F m _ sl h (Post.bind p fun x S1 v H1 F1 m1 h1 x1 r1 p1 => ?_)
  cases r1 with
  | str y hz =>
    dsimp only at p1
    split at p1
    · rename_i hc
      exact ⟨y, rfl, hc, rs (acc ++ y) σ H1 ρ S1 F1 m1 Q (sl.le x1.le) h1 p1⟩
    · exact p1.elim
  | _ => exact p1.elim
theorem de_joined {v1 v2 : Expr} {rest : List Expr} {g : Str → Ev Str} {pos : Pos} (h : DJ X (v1 :: v2 :: rest) g) : DE X (.JoinedStr (v1 :: v2 :: rest) pos) (dJs g) := by
  refine ⟨fun W tk => ?_⟩
  obtain ⟨ts, ps, rs⟩ := h.ex W tk
  refine ⟨_, pe_joined ps, fun σ H ρ S F m Q sl h p => ?_⟩
  refine rs Str.empty σ H ρ S F m _ sl h (Post.bind p fun x S1 v H1 F1 m1 h1 x1 e1 p1 => ?_)
  subst e1
  split at p1
  · rename_i hc
    exact p1 _ H1 F1 m1 h1 (Ext.refl _ _ _) (.str _ hc)
  · exact p1.elim
/-! ### the first text that is not empty -/
def dOrT (ga gb : Ev D) : Ev D := fun ρ S => (ga ρ S).bind fun x S1 => match x with
  | .str y => if y.length = 0 then gb ρ S1 else .ok (.str y) S1
  | _ => .bad
theorem de_orT {a b : Expr} {ga gb : Ev D} {rest : List Expr} {pos : Pos} (ha : DE X a ga) (hb : DE X (.BoolOp .Or (b :: rest) pos) gb) : DE X (.BoolOp .Or (a :: b :: rest) pos) (dOrT ga gb) := by
  refine ⟨fun W tk => ?_⟩
  obtain ⟨ta, pa, ra⟩ := ha.ex W tk
  obtain ⟨tb, pb, rb⟩ := hb.ex W tk
  refine ⟨_, pe_orT pa pb, fun σ H ρ S F m Q sl h p => ?_⟩
  refine ra σ H ρ S F m _ sl h (Post.bind p fun x S1 v H1 F1 m1 h1 x1 r1 p1 => ?_)
  cases r1 with
  | str y hz =>
    dsimp only at p1
    by_cases hy : y.length = 0
    · rw [if_pos hy] at p1
      refine ⟨false, ⟨hz, by rw [hy]; rfl⟩, ?_⟩
      rw [if_neg (by decide)]
      exact rb σ H1 ρ S1 F1 m1 Q (sl.le x1.le) h1 p1
    · rw [if_neg hy] at p1
      refine ⟨true, ⟨hz, ?_⟩, ?_⟩
      · symm
        rw [bne_iff_ne]
        omega
      · rw [if_pos rfl]
        exact p1 _ H1 F1 m1 h1 (Ext.refl _ _ _) (.str _ hz)
  | _ => exact p1.elim
/-! ### held still between two statements -/
def dGh (i : Nat) : St' := fun ρ S => match ρ[i]? with
  | some (some (.loc n)) => match S[n]? with
    | some (.lst ds) => .nx (ρ.set i (some (.lst ds))) (S.set n .gone)
    | _ => .bad
  | _ => .bad
theorem dss_gh {sts : List Stmt} {g : St'} (i : Nat) (h : DSs X sts g) : DSs X sts (dSeq (dGh i) g) := by
  refine ⟨fun W tk => ?_⟩
  obtain ⟨t, pt, rt⟩ := h.ex W tk
  refine ⟨t, pt, fun σ H ρ S F m N sl hs p => ?_⟩
  unfold dSeq dGh at p
  cases e1 : ρ[i]? with
  | none => rw [e1] at p; exact p.elim
  | some od =>
    cases od with
    | none => rw [e1] at p; exact p.elim
    | some d =>
      cases d with
      | loc n =>
        rw [e1] at p
        dsimp only at p
        cases e2 : S[n]? with
        | none => rw [e2] at p; exact p.elim
        | some ob =>
          cases ob with
          | lst ds =>
            rw [e2] at p
            dsimp only at p
            obtain ⟨v, ev, r⟩ := sl.2 i _ e1
            cases r with
            | @loc n a l =>
              obtain ⟨fa, ho, ha, vs, rfl, hz, rv⟩ := hs.sto n a _ l e2 (by simp)
              obtain ⟨h2, x2⟩ := hs.freeze l e2 (by simp) ha
              have sl2 := (sl.le x2.le).set i (.lst hz upd_same (rv.le x2.le))
              rw [show σ.set i (some (.ref a)) = σ from ?_] at sl2
              · exact rt σ H _ _ _ _ N sl2 h2 (SPost.later x2 p)
              · obtain ⟨hi, e⟩ := List.getElem?_eq_some_iff.mp ev
                rw [← e]
                exact List.set_getElem_self hi
          | _ => rw [e2] at p; exact p.elim
      | _ => rw [e1] at p; exact p.elim
end
theorem ws_gh {i n : Nat} {ρ : DEnv} {S : Sto} {ds : List D} {g : St'} {N B C : DEnv → Sto → Prop} {R : D → Sto → Prop} (e1 : ρ[i]? = some (some (.loc n))) (e2 : S[n]? = some (.lst ds)) (q : WsE ES (g (ρ.set i (some (.lst ds))) (S.set n .gone)) N R B C) : WsE ES (dSeq (dGh i) g ρ S) N R B C := by
  unfold dSeq dGh
  rw [e1]
  dsimp only
  rw [e2]
  exact q
section
variable {ρ : DEnv} {S : Sto}
theorem wp_join {go ge : Ev D} {a : Str} {Q : D → Sto → Prop} (e : go ρ S = .ok (.str a) S) (q : WpE EX (ge ρ S) fun y S1 => WpE EX (fJoin a y S1) Q) : WpE EX (dJoin go ge ρ S) Q := by
  unfold dJoin
  rw [wp_bind, e]
  show WpE EX ((ge ρ S).bind fun y S2 => fJoin a y S2) Q
  rw [wp_bind]
  exact q
theorem wp_joinL {a : Str} {ys : List Str} {Q : D → Sto → Prop} (h1 : (ys.map (·.length)).sum + ys.length * a.length ≤ 16777216) (h2 : (Txt.join a ys).length ≤ sizeLine) (q : Q (.str (Txt.join a ys)) S) : WpE EX (fJoin a (.lst (ys.map .str)) S) Q := by
  unfold fJoin
  dsimp only
  rw [strs_of]
  dsimp only
  rw [if_pos ⟨h1, h2⟩]
  exact q
theorem wp_js {g : Str → Ev Str} {Q : D → Sto → Prop} (q : WpE EX (g Str.empty ρ S) fun s S1 => s.length ≤ sizeLine ∧ Q (.str s) S1) : WpE EX (dJs g ρ S) Q := by
  unfold dJs
  rw [wp_bind]
  exact WpE.mp q fun s S1 h => by rw [if_pos h.1]; exact h.2
theorem wp_jn {acc : Str} {Q : Str → Sto → Prop} (q : Q acc S) : WpE EX (jNil acc ρ S) Q := q
theorem wp_jc {ge : Ev D} {r : Str → Ev Str} {acc : Str} {Q : Str → Sto → Prop} (q : WpE EX (ge ρ S) fun x S1 => ∃ y, x = .str y ∧ (acc ++ y).length ≤ sizeLine ∧ WpE EX (r (acc ++ y) ρ S1) Q) : WpE EX (jCons ge r acc ρ S) Q := by
  unfold jCons
  rw [wp_bind]
  exact WpE.mp q fun x S1 h => by
    obtain ⟨y, rfl, h1, h2⟩ := h
    dsimp only
    rw [if_pos h1]
    exact h2
theorem wp_fmtS {ge : Ev D} {Q : D → Sto → Prop} (q : WpE EX (ge ρ S) fun x S1 => ∃ y, x = .str y ∧ y.length ≤ sizeLine ∧ Q (.str y) S1) : WpE EX (dFmt ge ρ S) Q := by
  unfold dFmt
  rw [wp_bind]
  exact WpE.mp q fun x S1 h => by
    obtain ⟨y, rfl, h1, h2⟩ := h
    dsimp only
    rw [if_pos h1]
    exact h2
theorem wp_orT {ga gb : Ev D} {Q : D → Sto → Prop} (q : WpE EX (ga ρ S) fun x S1 => ∃ y : Str, x = .str y ∧ if y.length = 0 then WpE EX (gb ρ S1) Q else Q (.str y) S1) : WpE EX (dOrT ga gb ρ S) Q := by
  unfold dOrT
  rw [wp_bind]
  exact WpE.mp q fun x S1 h => by
    obtain ⟨y, rfl, h1⟩ := h
    dsimp only
    by_cases hy : y.length = 0
    · rw [if_pos hy] at h1 ⊢; exact h1
    · rw [if_neg hy] at h1 ⊢; exact h1
theorem wp_strI {i : Int} {Q : D → Sto → Prop} (h1 : i.natAbs.log2 < 1920) (h2 : (intT i).length ≤ sizeLine) (q : Q (.str (intT i)) S) : WpE EX (fStrI [.int i] S) Q := by
  show WpE EX (if i.natAbs.log2 < 1920 ∧ (intT i).length ≤ sizeLine then .ok (.str (intT i)) S else .bad) Q
  rw [if_pos ⟨h1, h2⟩]
  exact q
end
end DL

/-! DL: objects of own classes: attributes, calls of methods, making. -/
namespace DL
open PySem PySem.Spec PyProof.Rows L2
variable {EX : XP} {ES : XPs}
section
variable {K : PySem.W.Frag} {F : Hp} {m : List Addr}
theorem kv_look {f : Str} {d : D} : ∀ {fs : List (Str × D)} {vs : List (Str × V)}, RepKV K F m fs vs → fs.lookup f = some d → ∃ v, vs.lookup f = some v ∧ Rep K F m d v
  | _, _, .nil, e => by cases e
  | (g, x) :: fs, (g', y) :: vs, .cons h t, e => by
    obtain ⟨e1, r⟩ := h
    have e1 : g = g' := e1
    subst e1
    rw [List.lookup_cons] at e ⊢
    by_cases hg : (f == g) = true
    · rw [hg] at e ⊢
      cases e
      exact ⟨y, rfl, r⟩
    · have hg' : (f == g) = false := by simpa using hg
      rw [hg'] at e ⊢
      exact kv_look t e
theorem kv_none {f : Str} : ∀ {fs : List (Str × D)} {vs : List (Str × V)}, RepKV K F m fs vs → fs.lookup f = none → vs.lookup f = none
  | _, _, .nil, _ => rfl
  | (g, x) :: fs, (g', y) :: vs, .cons h t, e => by
    obtain ⟨e1, r⟩ := h
    have e1 : g = g' := e1
    subst e1
    rw [List.lookup_cons] at e ⊢
    by_cases hg : (f == g) = true
    · rw [hg] at e; cases e
    · have hg' : (f == g) = false := by simpa using hg
      rw [hg'] at e ⊢
      exact kv_none t e
def putO (f : Str) (d : D) : List (Str × D) → List (Str × D)
  | [] => [(f, d)]
  | (g, x) :: r => if g = f then (g, d) :: r else (g, x) :: putO f d r
theorem kv_putO {f : Str} {d : D} {v : V} (rd : Rep K F m d v) : ∀ {fs : List (Str × D)} {vs : List (Str × V)}, RepKV K F m fs vs → RepKV K F m (putO f d fs) (putF f v vs)
  | _, _, .nil => .cons ⟨rfl, rd⟩ .nil
  | (g, x) :: fs, (g', y) :: vs, .cons h t => by
    obtain ⟨e1, r⟩ := h
    have e1 : g = g' := e1
    subst e1
    unfold putO putF
    by_cases hg : g = f
    · rw [if_pos hg, if_pos hg]; exact .cons ⟨rfl, rd⟩ t
    · rw [if_neg hg, if_neg hg]; exact .cons ⟨rfl, r⟩ (kv_putO rd t)
theorem kv_len : ∀ {fs : List (Str × D)} {vs : List (Str × V)}, RepKV K F m fs vs → fs.length = vs.length := fun h => Paired.length h
end
/-- the object of class C at a place -/
def insAt (C : Addr) (S : Sto) : D → Option (Nat × List (Str × D))
  | .loc n => match S[n]? with
    | some (.ins C' fs) => if C' = C then some (n, fs) else none
    | _ => none
  | _ => none
theorem insAt_ok {K : PySem.W.Frag} {H F : Hp} {S : Sto} {m : List Addr} {C : Addr} {d : D} {v : V} {n : Nat} {fs : List (Str × D)} (h : HSt K H S F m) (r : Rep K F m d v) (e : insAt C S d = some (n, fs)) :
    d = .loc n ∧ S[n]? = some (.ins C fs) ∧ ∃ a dx vs, v = .ref a ∧ m[n]? = some a ∧ H a = some (.ins C dx vs) ∧ RepKV K F m fs vs := by
  cases r with
  | @loc k a l =>
    unfold insAt at e
    dsimp only at e
    cases es : S[k]? with
    | none => rw [es] at e; cases e
    | some o =>
      rw [es] at e
      cases o with
      | ins C' fs' =>
        dsimp only at e
        by_cases hc : C' = C
        · rw [if_pos hc] at e
          cases e
          subst hc
          obtain ⟨_, ho, hH, dx, vs, rfl, q⟩ := h.sto _ a _ l es (by intro z; cases z)
          exact ⟨rfl, es, a, dx, vs, rfl, l, hH, q⟩
        · rw [if_neg hc] at e; cases e
      | _ => cases e
  | _ => cases e
section
variable {X : Cx} {o e value : Expr} {f : Str} {pos pos' p apos : Pos} {go gv : Ev D} {C : Addr}
/-- o.f -/
def dFld (C : Addr) (f : Str) (go : Ev D) : Ev D := fun ρ S => (go ρ S).bind fun x S1 => match insAt C S1 x with
  | some (_, fs) => match fs.lookup f with
    | some d => .ok d S1
    | none => .bad
  | none => .bad
theorem de_fld (ho : DE X o go) (c : Cls X.K C) (na : NoAttr X.K C f) (hb : attributeBase o f X.env (eval o X.env) = eval o X.env := by rfl) : DE X (.Attribute o f pos) (dFld C f go) := by
  refine ⟨fun W tk => ?_⟩
  obtain ⟨t, pt, rt⟩ := ho.ex W tk
  refine ⟨_, pe_fld pt hb, fun σ H ρ S F m Q sl h q => ?_⟩
  refine rt σ H ρ S F m _ sl h (Post.bind q fun x S1 v H1 F1 m1 h1 x1 r1 p1 => ?_)
  cases ei : insAt C S1 x with
  | none => rw [ei] at p1; exact p1.elim
  | some z =>
    obtain ⟨n, fs⟩ := z
    rw [ei] at p1
    dsimp only at p1
    obtain ⟨rfl, es, a, dx, vs, rfl, l, hH, kv⟩ := insAt_ok h1 r1 ei
    cases el : fs.lookup f with
    | none => rw [el] at p1; exact p1.elim
    | some d =>
      rw [el] at p1
      obtain ⟨w, ew, rw1⟩ := kv_look kv el
      exact ⟨a, C, dx, vs, w, rfl, hH, c, na, ew, p1 _ H1 F1 m1 h1 (Ext.refl _ _ _) rw1⟩
/-- o.f, a constant of the class -/
def dCon (C : Addr) (f : Str) (d : D) (go : Ev D) : Ev D := fun ρ S => (go ρ S).bind fun x S1 => match insAt C S1 x with
  | some (_, fs) => match fs.lookup f with
    | none => .ok d S1
    | some _ => .bad
  | none => .bad
theorem de_con {d : D} {v0 : V} {u0 : Value} (ho : DE X o go) (c : Cls X.K C) (k : Con X.K C f v0 u0) (hd : ∀ F m, Rep X.K F m d v0) (hb : attributeBase o f X.env (eval o X.env) = eval o X.env := by rfl) : DE X (.Attribute o f pos) (dCon C f d go) := by
  refine ⟨fun W tk => ?_⟩
  obtain ⟨t, pt, rt⟩ := ho.ex W tk
  refine ⟨_, pe_con pt hb, fun σ H ρ S F m Q sl h q => ?_⟩
  refine rt σ H ρ S F m _ sl h (Post.bind q fun x S1 v H1 F1 m1 h1 x1 r1 p1 => ?_)
  cases ei : insAt C S1 x with
  | none => rw [ei] at p1; exact p1.elim
  | some z =>
    obtain ⟨n, fs⟩ := z
    rw [ei] at p1
    dsimp only at p1
    obtain ⟨rfl, es, a, dx, vs, rfl, l, hH, kv⟩ := insAt_ok h1 r1 ei
    cases el : fs.lookup f with
    | some d => rw [el] at p1; exact p1.elim
    | none =>
      rw [el] at p1
      exact ⟨a, C, dx, vs, v0, u0, rfl, hH, c, k, kv_none kv el, p1 _ H1 F1 m1 h1 (Ext.refl _ _ _) (hd _ _)⟩
/-- o.f = value -/
def dSetF (C : Addr) (f : Str) (go gv : Ev D) : St' := fun ρ S => (gv ρ S).bindS ρ fun d S1 => (go ρ S1).bindS ρ fun x S2 => match insAt C S2 x with
  | some (n, fs) => if fs.length < 1000 then .nx ρ (S2.set n (.ins C (putO f d fs))) else .bad
  | none => .bad
theorem ds_setF (ho : DE X o go) (hv : DE X value gv) (c : Cls X.K C) (na : NoAttr X.K C f) (hs : swapsWith value (some (.Attribute o f pos')) pos.line X.env = pure false := by rfl) : DS X (.Assign [.Attribute o f pos'] value pos) (dSetF C f go gv) := by
  refine ⟨fun W tk => ?_⟩
  obtain ⟨to, po, ro⟩ := ho.ex W tk
  obtain ⟨tv, pv, rv⟩ := hv.ex W tk
  refine ⟨_, ps_fld po pv hs, fun σ H ρ S F m N sl h q => ?_⟩
  refine rv σ H ρ S F m _ sl h (Post.bindS sl q fun d S1 v H1 F1 m1 h1 x1 r1 p1 => ?_)
  refine ro σ H1 ρ S1 F1 m1 _ (sl.le x1.le) h1 (Post.bindS (sl.le x1.le) p1 fun x S2 y H2 F2 m2 h2 x2 r2 p2 => ?_)
  cases ei : insAt C S2 x with
  | none => rw [ei] at p2; exact p2.elim
  | some z =>
    obtain ⟨n, fs⟩ := z
    rw [ei] at p2
    dsimp only at p2
    obtain ⟨rfl, es, a, dx, vs, rfl, l, hH, kv⟩ := insAt_ok h2 r2 ei
    by_cases hl : fs.length < 1000
    · rw [if_pos hl] at p2
      obtain ⟨h3, x3⟩ := h2.write l es (by intro z; cases z) (o := .ins C (putO f d fs)) (ho := .ins C dx (putF f v vs)) ⟨dx, _, rfl, kv_putO (r1.le x2.le) kv⟩
      refine ⟨a, C, dx, vs, rfl, hH, c, na, by rw [← kv_len kv]; exact hl, p2 σ _ F2 m2 ((sl.le x1.le).le (x2.le)) h3 x3⟩
    · rw [if_neg hl] at p2; exact p2.elim
end
/-! ### o.m(e, ..) -/
section
variable {X : Cx} {o e : Expr} {es : List Expr} {mn x : Str} {pos p apos : Pos} {go : Ev D} {gs : Ev (List D)} {C f : Addr} {k j n : Nat} {den : List D → Sto → Res D}
def dMeth (C : Addr) (mn : Str) (den : List D → Sto → Res D) (go : Ev D) (gs : Ev (List D)) : Ev D := fun ρ S => (go ρ S).bind fun x S1 => match insAt C S1 x with
  | some (_, fs) => match fs.lookup mn with
    | none => (gs ρ S1).bind fun ds S2 => den (x :: ds) S2
    | some _ => .bad
  | none => .bad
def tMethG (X : Cx) (W : WX) (C : Addr) (mn : Str) (n : Nat) (den : List D → Sto → Res D) (to : TE) (t : TA) : TE := fun σ H Q => to σ H fun x H1 => ∃ a dx fs, x = .ref a ∧ H1 a = some (.ins C dx fs) ∧ fs.lookup mn = none ∧ t σ H1 fun vs H2 =>
  vs.length = n ∧ ∃ F m ds S, HSt X.K H2 S F m ∧ RepL X.K F m ds (x :: vs) ∧ Post (Rep X.K) X.mg X.K H2 F m (den ds S) Q (fun c d H' => W c d σ H')
theorem de_meth {pl : Sem Bool} (G : FnG X.prog X.w X.K X.mg X.base k f (n + 1) den) (ok : XOk X j) (hk : k ≤ j) (c : Cls X.K C) (hm : Meth X.K C mn f) (ho : DE X o go) (ha : DA X (e :: es) gs) (hn : ∀ ρ S ds S', gs ρ S = .ok ds S' → ds.length = n)
    (he : starEach (e :: es) X.env = (false, eval e X.env) :: starEach es X.env := by rfl) (hpl : (backTo pos (starEach es X.env)).any (·.1) = false := by rfl)
    (ht : eval (.Call (.Attribute o mn apos) (e :: es) [] pos) X.env = (do
      let ov ← eval o X.env
      standAt apos.atName
      let (f, first) ← holding [ov] (getMethod ov mn pl)
      callWith pos f first (backTo pos (starEach (e :: es) X.env)) (backToKw pos (keywordEach [] X.env))) := by rfl) :
    DE X (.Call (.Attribute o mn apos) (e :: es) [] pos) (dMeth C mn den go gs) := by
  refine ⟨fun W tk => ?_⟩
  obtain ⟨to, po, ro⟩ := ho.ex W tk
  obtain ⟨ta, pa, ra⟩ := ha.ex W tk
  refine ⟨tMethG X W C mn n den to ta, ⟨fun pins s σ H Q I h => ?_⟩, fun σ H ρ S F m Q sl h q => ?_⟩
  · refine PySem.W.methodCall_KW (pl := pl) (thn (po.run pins s σ H _ I h) fun u s1 ⟨x, H1, I1, rx, a, dx, fs, ex, ea, l, q⟩ => ?_) ht
    subst ex
    obtain rfl : u = Value.ref a := rx
    refine getmeth_ok I1 ea c hm l ?_
    refine PySem.W.callWith_K (first := [.ref a]) (h₀ := X.base) I.ok.mod.kin hm.kp (thn (pa.run pos pins s1 σ H1 _ I1 q) fun us s2 ⟨vs, H2, I2, r, hl, F, m, ds, S, hst, rep, q2⟩ => ⟨I2.kIn, ?_⟩) he hpl
    exact run_g (us := .ref a :: us) (vs := .ref a :: vs) G ok hk tk I2 (.cons rfl r) (by rw [List.length_cons, hl]) hst rep q2
  · refine ro σ H ρ S F m _ sl h (Post.bind q fun x S1 v H1 F1 m1 h1 x1 r1 p1 => ?_)
    cases ei : insAt C S1 x with
    | none => rw [ei] at p1; exact p1.elim
    | some z =>
      obtain ⟨i, fs⟩ := z
      rw [ei] at p1
      dsimp only at p1
      obtain ⟨rfl, es', a, dx, vs, rfl, l, hH, kv⟩ := insAt_ok h1 r1 ei
      cases el : fs.lookup mn with
      | some d => rw [el] at p1; exact p1.elim
      | none =>
        rw [el] at p1
        dsimp only at p1
        refine ⟨a, dx, vs, rfl, hH, kv_none kv el, ?_⟩
        refine ra σ H1 ρ S1 F1 m1 _ (sl.le x1.le) h1 ?_
        cases eg : gs ρ S1 with
        | ok ds S2 =>
          rw [eg] at p1
          have hl := hn _ _ _ _ eg
          exact fun ws H2 F2 m2 h2 x2 r2 => ⟨by rw [← r2.length]; exact hl, F2, m2, _, S2, h2, .cons (r1.le x2.le) r2, Post.later x2 p1⟩
        | exc y S2 => rw [eg] at p1; exact p1
        | bad => rw [eg] at p1; exact p1
/-! ### C(e, ..) -/
def dMake (C : Addr) (den : List D → Sto → Res D) (gs : Ev (List D)) : Ev D := fun ρ S => (gs ρ S).bind fun ds S1 => (den (.loc S1.length :: ds) (S1 ++ [.ins C []])).bind fun d S2 => match d with
  | .non => .ok (.loc S1.length) S2
  | _ => .bad
def tMkG (X : Cx) (W : WX) (C : Addr) (n : Nat) (den : List D → Sto → Res D) (t : TA) : TE := fun σ H Q => t σ H fun vs H1 => ∀ x dx, H1 x = Option.none → H1 dx = Option.none → dx ≠ x →
  vs.length = n ∧ ∃ F m ds S, HSt X.K (upd (upd H1 dx (.own x)) x (.ins C dx [])) S F m ∧ RepL X.K F m ds (.ref x :: vs) ∧ Post (Rep X.K) X.mg X.K (upd (upd H1 dx (.own x)) x (.ins C dx [])) F m (den ds S) (fun v H2 => v = .non ∧ Q (.ref x) H2) (fun c d H' => W c d σ H')
theorem run_mk {W : WX} {pins : List (Addr × Obj)} {σ : L2.St} {H : Hp} {s : Shared} {Q : VK} {us : List Value} {vs : List V} (M : Mk X.K C f) (G : FnG X.prog X.w X.K X.mg X.base k f (n + 1) den) (ok : XOk X j) (hk : k + 1 ≤ j) (tk : Takes X W) (I : Inv X pins σ H s) (r : Vals vs us)
    (h : ∀ x dx, H x = Option.none → H dx = Option.none → dx ≠ x → vs.length = n ∧ ∃ F m ds S, HSt X.K (upd (upd H dx (.own x)) x (.ins C dx [])) S F m ∧ RepL X.K F m ds (.ref x :: vs) ∧ Post (Rep X.K) X.mg X.K (upd (upd H dx (.own x)) x (.ins C dx [])) F m (den ds S) (fun v H2 => v = .non ∧ Q (.ref x) H2) (fun c d H' => W c d σ H')) :
    wpAny (model X.prog X.w) X.A (call (.ref C) us) (EP X pins σ Q) X.xe s := by
  obtain ⟨hl, F, m, ds, S, hst, rep, post⟩ := h (s.heap.objs.size + 1) s.heap.objs.size (I.hok.fresh (Nat.le_succ _)) (I.hok.fresh (Nat.le_refl _)) (Nat.ne_of_lt (Nat.lt_succ_self _))
  have I2 := Inv.made (C := C) I
  have r2 : Vals (V.ref (s.heap.objs.size + 1) :: vs) (Value.ref (s.heap.objs.size + 1) :: us) := .cons rfl r
  have hr : Room (k + 1) X.A := ok.room.mono hk
  refine wpAny_call (make_map (f := f) I.kIn M.makes M.init (beq_iff_eq.mp M.fn) (codeAny_mono (G.run _ X.stack _ _ (Value.ref (s.heap.objs.size + 1) :: us) _ _ (fun c d H' => W c d σ H') F m ds S (hr.make C us []) ?_ (I2.env0.make C us []) r2 (by rw [List.length_cons, hl]) hst rep post) fun r s' hq' => ?_))
  · have g := ok.grd
    first
    | exact g
    | (simp [Around.deeper, Around.under, Code.guards, Code.isGuard, pushGuards, g])
  · cases r with
    | error e => exact air tk I2 hq'
    | ok fl =>
      cases fl with
      | ret u =>
        obtain ⟨v, H', I3, rv, ev, q3⟩ := I2.after hq'
        subst ev
        exact ⟨rv, ⟨V.ref (s.heap.objs.size + 1), H', I3, rfl, q3⟩⟩
      | next => exact False.elim hq'
      | brk => exact False.elim hq'
      | cont => exact False.elim hq'
theorem de_make (M : Mk X.K C f) (G : FnG X.prog X.w X.K X.mg X.base k f (n + 1) den) (ok : XOk X j) (hk : k + 1 ≤ j) (hg : Gl X x) (hm : X.mg x = some (.ref C)) (ha : DA X (e :: es) gs) (hn : ∀ ρ S ds S', gs ρ S = .ok ds S' → ds.length = n)
    (hdb : (x == ("__debug__" : Str)) = false := by decide) (he : starEach (e :: es) X.env = (false, eval e X.env) :: starEach es X.env := by rfl) (hpl : (backTo pos (starEach es X.env)).any (·.1) = false := by rfl) :
    DE X (.Call (.Name x p) (e :: es) [] pos) (dMake C den gs) := by
  refine ⟨fun W tk => ?_⟩
  obtain ⟨ta, pa, ra⟩ := ha.ex W tk
  refine ⟨tMkG X W C n den ta, ⟨fun pins s σ H Q I h => ?_⟩, fun σ H ρ S F m Q sl h q => ?_⟩
  · refine wpAny_Call_Name_kw (ld_glob I hg hm ?_ hdb)
    refine PySem.W.callWith_K (h₀ := X.base) I.ok.mod.kin M.kp (thn (pa.run pos pins s σ H _ I h) fun us s1 ⟨vs, H1, I1, r, q⟩ => ⟨I1.kIn, ?_⟩) he hpl
    exact run_mk M G ok hk tk I1 r q
  · refine ra σ H ρ S F m _ sl h ?_
    unfold dMake at q
    cases eg : gs ρ S with
    | exc y S1 => rw [eg] at q; exact q
    | bad => rw [eg] at q; exact q
    | ok ds S1 =>
      have hl := hn _ _ _ _ eg
      rw [eg] at q
      dsimp only [Res.bind] at q
      intro vs H1 F1 m1 h1 x1 r1 a dx na nd ne
      obtain ⟨h2, x2⟩ := h1.lay nd (.own a)
      have na2 : upd H1 dx (.own a) a = Option.none := by rw [upd_ne fun z => ne z.symm]; exact na
      obtain ⟨h3, x3⟩ := h2.push na2 (o := .ins C []) (ho := .ins C dx []) ⟨dx, [], rfl, .nil⟩
      have xx := x1.trans (x2.trans x3)
      have hat : (m1 ++ [a])[S1.length]? = some a := by rw [← h1.len]; simp
      refine ⟨by rw [← r1.length]; exact hl, F1, m1 ++ [a], .loc S1.length :: ds, S1 ++ [.ins C []], h3, .cons (.loc hat) (r1.le (x2.trans x3).le), ?_⟩
      refine Post.bind (Post.later xx q) fun d S2 v H4 F4 m4 h4 x4 r4 p4 => ?_
      cases r4 with
      | non => exact ⟨rfl, p4 _ H4 F4 m4 h4 (Ext.refl _ _ _) (.loc (x4.le.p _ _ hat))⟩
      | _ => exact p4.elim
end
section
variable {ρ : DEnv} {S : Sto} {C : Addr}
theorem insAt_loc {n : Nat} {fs : List (Str × D)} (e : S[n]? = some (.ins C fs)) : insAt C S (.loc n) = some (n, fs) := by
  unfold insAt
  dsimp only
  rw [e]
  dsimp only
  rw [if_pos rfl]
theorem wp_fld {f : Str} {go : Ev D} {Q : D → Sto → Prop} (q : WpE EX (go ρ S) fun x S1 => ∃ n fs d, x = .loc n ∧ S1[n]? = some (.ins C fs) ∧ fs.lookup f = some d ∧ Q d S1) : WpE EX (dFld C f go ρ S) Q := by
  unfold dFld
  rw [wp_bind]
  exact WpE.mp q fun x S1 h => by
    obtain ⟨n, fs, d, rfl, e1, e2, h⟩ := h
    rw [insAt_loc e1]
    dsimp only
    rw [e2]
    exact h
theorem wp_meth {mn : Str} {den : List D → Sto → Res D} {go : Ev D} {gs : Ev (List D)} {Q : D → Sto → Prop} (q : WpE EX (go ρ S) fun x S1 => ∃ n fs, x = .loc n ∧ S1[n]? = some (.ins C fs) ∧ fs.lookup mn = none ∧ WpE EX (gs ρ S1) fun ds S2 => WpE EX (den (.loc n :: ds) S2) Q) : WpE EX (dMeth C mn den go gs ρ S) Q := by
  unfold dMeth
  rw [wp_bind]
  exact WpE.mp q fun x S1 h => by
    obtain ⟨n, fs, rfl, e1, e2, h⟩ := h
    rw [insAt_loc e1]
    dsimp only
    rw [e2]
    dsimp only
    rw [wp_bind]
    exact h
theorem wp_make {den : List D → Sto → Res D} {gs : Ev (List D)} {Q : D → Sto → Prop} (q : WpE EX (gs ρ S) fun ds S1 => WpE EX (den (.loc S1.length :: ds) (S1 ++ [.ins C []])) fun d S2 => d = .non ∧ Q (.loc S1.length) S2) : WpE EX (dMake C den gs ρ S) Q := by
  unfold dMake
  rw [wp_bind]
  refine WpE.mp q fun ds S1 h => ?_
  rw [wp_bind]
  refine WpE.mp h fun d S2 h => ?_
  obtain ⟨rfl, h⟩ := h
  exact h
theorem ws_setF {f : Str} {go gv : Ev D} {N B R' : DEnv → Sto → Prop} {R : D → Sto → Prop} (q : WpE (ES.at ρ) (gv ρ S) fun d S1 => WpE (ES.at ρ) (go ρ S1) fun x S2 => ∃ n fs, x = .loc n ∧ S2[n]? = some (.ins C fs) ∧ fs.length < 1000 ∧ N ρ (S2.set n (.ins C (putO f d fs)))) : WsE ES (dSetF C f go gv ρ S) N R B R' := by
  unfold dSetF
  rw [ws_bindS]
  refine WpE.mp q fun d S1 h => ?_
  rw [ws_bindS]
  refine WpE.mp h fun x S2 h => ?_
  obtain ⟨n, fs, rfl, e1, e2, h⟩ := h
  rw [insAt_loc e1]
  dsimp only
  rw [if_pos e2]
  exact h
end
end DL

/-! DL: properties, calls of objects, methods without arguments, statements that are never reached. -/
namespace DL
open PySem PySem.Spec PyProof.Rows L2
variable {EX : XP} {ES : XPs}
section
variable {X : Cx} {o e : Expr} {es : List Expr} {mn fn x : Str} {pos p apos : Pos} {go : Ev D} {gs : Ev (List D)} {C f g pa : Addr} {k j n : Nat} {den : List D → Sto → Res D}
/-! ### o.f, a property -/
def dProp (C : Addr) (den : List D → Sto → Res D) (go : Ev D) : Ev D := fun ρ S => (go ρ S).bind fun x S1 => match insAt C S1 x with
  | some _ => (den [x] S1).nox
  | none => .bad
def tPropG (X : Cx) (C : Addr) (den : List D → Sto → Res D) (to : TE) : TE := fun σ H Q => to σ H fun x H1 => ∃ a dx fs, x = .ref a ∧ H1 a = some (.ins C dx fs) ∧
  ∃ F m ds S, HSt X.K H1 S F m ∧ RepL X.K F m ds [.ref a] ∧ Post (Rep X.K) X.mg X.K H1 F m (den ds S) Q (fun _ _ _ => False)
theorem de_prop (G : FnG X.prog X.w X.K X.mg X.base k g 1 den) (ok : XOk X j) (hk : k + 1 ≤ j) (c : Cls X.K C) (hp : PropOf X.K C fn pa g) (ho : DE X o go) (hb : attributeBase o fn X.env (eval o X.env) = eval o X.env := by rfl) : DE X (.Attribute o fn pos) (dProp C den go) := by
  refine ⟨fun W tk => ?_⟩
  obtain ⟨to, po, ro⟩ := ho.ex W tk
  refine ⟨tPropG X C den to, ⟨fun pins s σ H Q I h => ?_⟩, fun σ H ρ S F m Q sl h q => ?_⟩
  · refine attr_of hb (thn (po.run pins s σ H _ I h) fun u s1 ⟨x, H1, I1, rx, a, dx, fs, ex, ea, F, m, ds, S, hst, rep, q⟩ => ?_)
    subst ex
    obtain rfl : u = Value.ref a := rx
    obtain ⟨mA, O, _, _, _, _⟩ := ins_get I1.hok ea
    obtain ⟨od, J, _⟩ := O.look
    obtain ⟨rest, hrec⟩ := hp.rec_
    have I2 := I1.tok (s1.toks + 1)
    have hc : (PySem.W.clsIn X.K C).isSome = true := by
      obtain ⟨cd, hc, _⟩ := PySem.W.any_some c.hd
      rw [hc]
      rfl
    have hr : Room (k + 1) X.A := ok.room.mono hk
    have grd : X.A.in1.guards = some [] := by
      have gg := ok.grd
      first
      | exact gg
      | (simp [Around.in1, Around.deeper, Around.under, Code.guards, Code.isGuard, pushGuards, gg])
    refine PySem.W.get_bind I1.kIn J (PySem.W.plainGet_of (c.get fn)).1 (PySem.W.findObj_data hc hp.at_ hp.get hp.tak) (PySem.W.plainGet_of (c.get fn)).2 (wpAny_call (PySem.W.prop_get (s := { s1 with toks := s1.toks + 1 }) I1.kIn hrec ?_))
    refine codeAny_mono (G.run X.A.in1 X.stack { s1 with toks := s1.toks + 1 } H1 [.ref a] [.ref a] Q (fun _ _ _ => False) F m ds S hr.in1 grd I2.env0.in1 (.cons rfl .nil) rfl hst rep q) fun r s' hq => ?_
    cases r with
    | error er =>
      obtain ⟨_, _, _, _, _, _, _, _, _, _, _, _, z⟩ := hq
      exact z.elim
    | ok fl =>
      cases fl with
      | ret u =>
        obtain ⟨v, H', I3, rv, q3⟩ := I2.after hq
        show wpAny _ _ (handedOut u) _ _ _
        rw [PySem.W.handedOut_of (handed_of rv)]
        exact wpAny_pure ⟨v, H', I3, rv, q3⟩
      | next => exact False.elim hq
      | brk => exact False.elim hq
      | cont => exact False.elim hq
  · refine ro σ H ρ S F m _ sl h (Post.bind q fun x S1 v H1 F1 m1 h1 x1 r1 p1 => ?_)
    cases ei : insAt C S1 x with
    | none => rw [ei] at p1; exact p1.elim
    | some z =>
      obtain ⟨i, fs⟩ := z
      rw [ei] at p1
      dsimp only at p1
      obtain ⟨rfl, es', a, dx, vs, rfl, l, hH, kv⟩ := insAt_ok h1 r1 ei
      exact ⟨a, dx, vs, rfl, hH, F1, m1, _, S1, h1, .cons r1 .nil, nox_post p1⟩
theorem wp_prop {ρ : DEnv} {S : Sto} {Q : D → Sto → Prop} (q : WpE EX (go ρ S) fun x S1 => ∃ n fs, x = .loc n ∧ S1[n]? = some (.ins C fs) ∧ WpE noX (den [.loc n] S1) Q) : WpE EX (dProp C den go ρ S) Q := by
  unfold dProp
  rw [wp_bind]
  exact WpE.mp q fun x S1 h => by
    obtain ⟨n, fs, rfl, e1, h⟩ := h
    rw [insAt_loc e1]
    dsimp only
    obtain ⟨d, S2, ed, hd⟩ := Wp.ex h
    rw [ed]
    exact hd
/-! ### o(e, ..) -/
theorem run_gc {W : WX} {pins : List (Addr × Obj)} {s : Shared} {σ : L2.St} {H : Hp} {Q : VK} {us : List Value} {vs : List V} {F : Hp} {m : List Addr} {ds : List D} {S : Sto} (G : FnG X.prog X.w X.K X.mg X.base k f n den) (ok : XOk X j) (hk : k ≤ j) (tk : Takes X W)
    (I : Inv X pins σ H s) (r : Vals vs us) (hn : vs.length = n) (hst : HSt X.K H S F m) (rep : RepL X.K F m ds vs) (post : Post (Rep X.K) X.mg X.K H F m (den ds S) Q (fun c d H' => W c d σ H')) :
    codeAny (model X.prog X.w) X.A (.call (.ref f) ⟨us, []⟩) (wants (EP X pins σ Q) X.xe) s :=
  codeAny_mono (G.run X.A X.stack s H us vs Q (fun c d H' => W c d σ H') F m ds S (ok.room.mono hk) ok.grd I.env0 r hn hst rep post) fun z s' hz => by
    cases z with
    | error u => exact air tk I hz
    | ok fl =>
      cases fl with
      | ret u => exact I.after hz
      | next => exact hz.elim
      | brk => exact hz.elim
      | cont => exact hz.elim
end
section
variable {X : Cx} {o e fe : Expr} {es : List Expr} {mn fn x : Str} {pos p apos : Pos} {go : Ev D} {gs : Ev (List D)} {C f g pa : Addr} {k j n : Nat} {den : List D → Sto → Res D}
def dCallO (C : Addr) (den : List D → Sto → Res D) (go : Ev D) (gs : Ev (List D)) : Ev D := fun ρ S => (go ρ S).bind fun x S1 => match insAt C S1 x with
  | none => .bad
  | some _ => (gs ρ S1).bind fun ds S2 => match insAt C S2 x with
    | some _ => den (x :: ds) S2
    | none => .bad
def tCallOG (X : Cx) (W : WX) (C : Addr) (n : Nat) (den : List D → Sto → Res D) (to : TE) (t : TA) : TE := fun σ H Q => to σ H fun x H1 => ∃ a, x = .ref a ∧ t σ H1 fun vs H2 => (∃ dx fs, H2 a = some (.ins C dx fs)) ∧
  vs.length = n ∧ ∃ F m ds S, HSt X.K H2 S F m ∧ RepL X.K F m ds (x :: vs) ∧ Post (Rep X.K) X.mg X.K H2 F m (den ds S) Q (fun c d H' => W c d σ H')
theorem de_callO (G : FnG X.prog X.w X.K X.mg X.base k g (n + 1) den) (ok : XOk X j) (hk : k ≤ j) (c : StX.CallO X.K C g) (ho : DE X fe go) (ha : DA X (e :: es) gs) (hn : ∀ ρ S ds S', gs ρ S = .ok ds S' → ds.length = n)
    (ht : eval (.Call fe (e :: es) [] pos) X.env = (do callWith pos (← eval fe X.env) [] (backTo pos (starEach (e :: es) X.env)) (backToKw pos (keywordEach [] X.env))) := by rfl)
    (he : starEach (e :: es) X.env = (false, eval e X.env) :: starEach es X.env := by rfl) (hpl : (backTo pos (starEach es X.env)).any (·.1) = false := by rfl) : DE X (.Call fe (e :: es) [] pos) (dCallO C den go gs) := by
  refine ⟨fun W tk => ?_⟩
  obtain ⟨to, po, ro⟩ := ho.ex W tk
  obtain ⟨ta, pa, ra⟩ := ha.ex W tk
  refine ⟨tCallOG X W C n den to ta, ⟨fun pins s σ H Q I h => ?_⟩, fun σ H ρ S F m Q sl h q => ?_⟩
  · refine Call_ (thn (po.run pins s σ H _ I h) fun u s1 ⟨y, H1, I1, ry, a, ey, q⟩ => ?_) ht
    subst ey
    obtain rfl : u = Value.ref a := ry
    refine StX.callO_with (thn (pa.run pos pins s1 σ H1 _ I1 q) fun us s2 ⟨vs, H2, I2, r, ⟨dx, fs, hi⟩, hl, F, m, ds, S, hst, rep, q2⟩ => ?_) he hpl
    obtain ⟨ox, od, J, hd⟩ := StX.insC_at (X := X) I2 (.inr ⟨dx, fs, hi⟩)
    exact ⟨⟨C, ox, od, J, hd⟩, wpAny_call (PySem.W.kco_code I2.kIn J hd c.at_ c.fn c.fi (run_gc (us := .ref a :: us) (vs := .ref a :: vs) G ok hk tk I2 (.cons rfl r) (by rw [List.length_cons, hl]) hst rep q2))⟩
  · refine ro σ H ρ S F m _ sl h (Post.bind q fun x S1 v H1 F1 m1 h1 x1 r1 p1 => ?_)
    cases ei0 : insAt C S1 x with
    | none => rw [ei0] at p1; exact p1.elim
    | some z0 =>
      rw [ei0] at p1
      dsimp only at p1
      obtain ⟨i0, fs0⟩ := z0
      obtain ⟨rfl, es0, a, dx0, vs0, rfl, l, hH0, kv0⟩ := insAt_ok h1 r1 ei0
      refine ⟨a, rfl, ra σ H1 ρ S1 F1 m1 _ (sl.le x1.le) h1 ?_⟩
      cases eg : gs ρ S1 with
      | exc y S2 => rw [eg] at p1; exact p1
      | bad => rw [eg] at p1; exact p1
      | ok ds S2 =>
        have hl := hn _ _ _ _ eg
        rw [eg] at p1
        dsimp only [Res.bind] at p1
        intro ws H2 F2 m2 h2 x2 r2
        have p1 := Post.later x2 p1
        cases ei : insAt C S2 (.loc i0) with
        | none => rw [ei] at p1; exact p1.elim
        | some z =>
          rw [ei] at p1
          dsimp only at p1
          have rl : Rep X.K F2 m2 (.loc i0) (.ref a) := .loc (x2.le.p _ _ l)
          obtain ⟨i2, fs⟩ := z
          obtain ⟨e1, es', a', dx, vs, e2, l2, hH, kv⟩ := insAt_ok h2 rl ei
          cases e2
          exact ⟨⟨dx, vs, hH⟩, by rw [← r2.length]; exact hl, F2, m2, _, S2, h2, .cons rl r2, p1⟩
/-! ### o.m() -/
def dMeth0 (C : Addr) (mn : Str) (den : List D → Sto → Res D) (go : Ev D) : Ev D := fun ρ S => (go ρ S).bind fun x S1 => match insAt C S1 x with
  | some (_, fs) => match fs.lookup mn with
    | none => den [x] S1
    | some _ => .bad
  | none => .bad
def tMeth0G (X : Cx) (W : WX) (C : Addr) (mn : Str) (den : List D → Sto → Res D) (to : TE) : TE := fun σ H Q => to σ H fun x H1 => ∃ a dx fs, x = .ref a ∧ H1 a = some (.ins C dx fs) ∧ fs.lookup mn = none ∧
  ∃ F m ds S, HSt X.K H1 S F m ∧ RepL X.K F m ds [x] ∧ Post (Rep X.K) X.mg X.K H1 F m (den ds S) Q (fun c d H' => W c d σ H')
theorem de_meth0 {pl : Sem Bool} (G : FnG X.prog X.w X.K X.mg X.base k f 1 den) (ok : XOk X j) (hk : k ≤ j) (c : Cls X.K C) (hm : Meth X.K C mn f) (ho : DE X o go)
    (ht : eval (.Call (.Attribute o mn apos) [] [] pos) X.env = (do
      let ov ← eval o X.env
      standAt apos.atName
      let (f, first) ← holding [ov] (getMethod ov mn pl)
      callWith pos f first (backTo pos (starEach [] X.env)) (backToKw pos (keywordEach [] X.env))) := by rfl) :
    DE X (.Call (.Attribute o mn apos) [] [] pos) (dMeth0 C mn den go) := by
  refine ⟨fun W tk => ?_⟩
  obtain ⟨to, po, ro⟩ := ho.ex W tk
  refine ⟨tMeth0G X W C mn den to, ⟨fun pins s σ H Q I h => ?_⟩, fun σ H ρ S F m Q sl h q => ?_⟩
  · refine PySem.W.methodCall_KW (pl := pl) (thn (po.run pins s σ H _ I h) fun u s1 ⟨x, H1, I1, rx, a, dx, fs, ex, ea, l, F, m, ds, S, hst, rep, q⟩ => ?_) ht
    subst ex
    obtain rfl : u = Value.ref a := rx
    refine getmeth_ok I1 ea c hm l ?_
    exact PySem.W.callWith_K0 (first := [.ref a]) I1.kIn hm.kp (run_g (us := [.ref a]) (vs := [.ref a]) G ok hk tk I1 (.cons rfl .nil) rfl hst rep q)
  · refine ro σ H ρ S F m _ sl h (Post.bind q fun x S1 v H1 F1 m1 h1 x1 r1 p1 => ?_)
    cases ei : insAt C S1 x with
    | none => rw [ei] at p1; exact p1.elim
    | some z =>
      obtain ⟨i, fs⟩ := z
      rw [ei] at p1
      dsimp only at p1
      obtain ⟨rfl, es', a, dx, vs, rfl, l, hH, kv⟩ := insAt_ok h1 r1 ei
      cases el : fs.lookup mn with
      | some d => rw [el] at p1; exact p1.elim
      | none =>
        rw [el] at p1
        exact ⟨a, dx, vs, rfl, hH, kv_none kv el, F1, m1, _, S1, h1, .cons r1 .nil, p1⟩
end
/-! ### what is never reached -/
def dNever : St' := fun _ _ => .bad
theorem ds_never {X : Cx} {st : Stmt} : DS X st dNever := ⟨fun W tk => ⟨_, ps_never, fun σ H ρ S F m N sl h p => p.elim⟩⟩
end DL

/-! DL: operators of own classes. -/
namespace DL
open PySem PySem.Spec PyProof.Rows L2
/-- x op y by the def of the class of both -/
def fOwn (C : Addr) (den : List D → Sto → Res D) (x y : D) (S : Sto) : Res D := match insAt C S x, insAt C S y with
  | some _, some _ => (den [x, y] S).nox
  | _, _ => .bad
def fOwnB (C : Addr) (den : List D → Sto → Res D) (x y : D) (S : Sto) : Res Bool := match insAt C S x, insAt C S y with
  | some _, some _ => (den [x, y] S).nox.bind asB
  | _, _ => .bad
/-- y in x -/
def fOwnIn (C : Addr) (den : List D → Sto → Res D) (y x : D) (S : Sto) : Res Bool := match insAt C S x, insAt C S y with
  | some _, some _ => (den [x, y] S).nox.bind asB
  | _, _ => .bad
def rOwn (X : Cx) (C : Addr) (den : List D → Sto → Res D) : R2 := fun x y H Q => ∃ a b dx dy fs gs, x = .ref a ∧ y = .ref b ∧ H a = some (.ins C dx fs) ∧ H b = some (.ins C dy gs) ∧
  ∃ F m ds S, HSt X.K H S F m ∧ RepL X.K F m ds [.ref a, .ref b] ∧ Post (Rep X.K) X.mg X.K H F m (den ds S) Q (fun _ _ _ => False)
section
variable {X : Cx} {C g : Addr} {k j : Nat} {den : List D → Sto → Res D}
theorem run_own {pins : List (Addr × Obj)} {s : Shared} {σ : L2.St} {H : Hp} {Q : VK} {a b : Addr} {F : Hp} {m : List Addr} {ds : List D} {S : Sto} {E : Value → Shared → Prop} (G : FnG X.prog X.w X.K X.mg X.base k g 2 den) (ok : XOk X j) (hk : k ≤ j)
    (I : Inv X pins σ H s) (hst : HSt X.K H S F m) (rep : RepL X.K F m ds [.ref a, .ref b]) (post : Post (Rep X.K) X.mg X.K H F m (den ds S) Q (fun _ _ _ => False)) :
    wpAny (model X.prog X.w) X.A (call (.ref g) [.ref a, .ref b]) (EP X pins σ Q) E s :=
  wpAny_call (codeAny_mono (G.run X.A X.stack s H [.ref a, .ref b] [.ref a, .ref b] Q (fun _ _ _ => False) F m ds S (ok.room.mono hk) ok.grd I.env0 (.cons rfl (.cons rfl .nil)) rfl hst rep post) fun z s' hz => by
    cases z with
    | error u =>
      obtain ⟨_, _, _, _, _, _, _, _, _, _, _, _, z⟩ := hz
      exact z.elim
    | ok fl =>
      cases fl with
      | ret u => exact I.after hz
      | next => exact hz.elim
      | brk => exact hz.elim
      | cont => exact hz.elim)
theorem cmpb {Q : Value → Shared → Prop} {z : V} {v : Value} {s' : Shared} (r : RelV z v) (h : Q v s') : PySem.W.CmpBack Q v s' := by
  cases z with
  | non => cases (show v = Value.none from r); exact h
  | bl b => cases (show v = Value.bool b from r); exact h
  | ref a => cases (show v = Value.ref a from r); exact h
  | ty n => cases (show v = Value.type n from r); exact h
  | int i => obtain ⟨t, e⟩ := (show ∃ t, v = Value.int i t from r); cases e; exact h
  | str i => obtain ⟨t, e⟩ := (show ∃ t, v = Value.str i t from r); cases e; exact h
  | byt i => obtain ⟨t, e⟩ := (show ∃ t, v = Value.bytes i t from r); cases e; exact h
  | flt i => obtain ⟨t, e⟩ := (show ∃ t, v = Value.float i t from r); cases e; exact h
theorem op_ownA {op : Operator} (G : FnG X.prog X.w X.K X.mg X.base k g 2 den) (ok : XOk X j) (hk : k ≤ j) (hc : PySem.W.selfFirst X.K C = true) (hs : PySem.W.findIn X.K (.ref C) (PySem.dunder op.info.2) = some (some (.ref g))) (hf : PySem.W.isFn X.K (.ref g) = true) :
    OpR X (binaryOp op) (rOwn X C den) := by
  intro pins s σ H x y v u Q I rx ry h
  obtain ⟨a, b, dx, dy, fs, gs, rfl, rfl, ha, hb, F, m, ds, S, hst, rep, post⟩ := h
  cases (show v = Value.ref a from rx)
  cases (show u = Value.ref b from ry)
  obtain ⟨mA, J, _⟩ := ins_get I.hok ha
  obtain ⟨mB, J', _⟩ := ins_get I.hok hb
  obtain ⟨od, J, _⟩ := J.look
  obtain ⟨od', J', _⟩ := J'.look
  obtain ⟨m', hF⟩ := I.fr
  refine PySem.W.binop_K hF I.ok.mod.kin J J'.type hc hs hf (wpAny_mono (run_own G ok hk I hst rep post) (fun w s' z => ?_) fun _ _ x => x)
  obtain ⟨z', H', I', rz, qz⟩ := z
  exact cmpb rz ⟨z', H', I', rz, qz⟩
theorem op_ownC {op : CmpOp} (G : FnG X.prog X.w X.K X.mg X.base k g 2 den) (ok : XOk X j) (hk : k ≤ j) (hop : ∀ a b, compareOp op a b = richCompare op a b) (hs : PySem.W.findIn X.K (.ref C) (cmpInfo op).2.1 = some (some (.ref g))) (hf : PySem.W.isFn X.K (.ref g) = true) :
    OpR X (compareOp op) (rOwn X C den) := by
  intro pins s σ H x y v u Q I rx ry h
  obtain ⟨a, b, dx, dy, fs, gs, rfl, rfl, ha, hb, F, m, ds, S, hst, rep, post⟩ := h
  cases (show v = Value.ref a from rx)
  cases (show u = Value.ref b from ry)
  obtain ⟨mA, J, _⟩ := ins_get I.hok ha
  obtain ⟨mB, J', _⟩ := ins_get I.hok hb
  obtain ⟨od, J, _⟩ := J.look
  obtain ⟨od', J', _⟩ := J'.look
  obtain ⟨m', hF⟩ := I.fr
  rw [hop]
  refine PySem.W.cmp_K (op := op) (tb := .ref C) ok.room.units0 hF I.ok.mod.kin J J'.type (by simp [PySem.W.notFirst]) hs hf (wpAny_mono (run_own G ok hk I hst rep post) (fun w s' z => ?_) fun _ _ x => x)
  obtain ⟨z', H', I', rz, qz⟩ := z
  exact cmpb rz ⟨z', H', I', rz, qz⟩
/-- y in x: a bool -/
def rOwnIn (X : Cx) (C : Addr) (den : List D → Sto → Res D) : R2 := fun y x H Q => rOwn X C den x y H fun v H' => ∃ k, v = .bl k ∧ Q (.bl k) H'
theorem op_ownIn (G : FnG X.prog X.w X.K X.mg X.base k g 2 den) (ok : XOk X j) (hk : k ≤ j) (hs : PySem.W.findIn X.K (.ref C) "__contains__" = some (some (.ref g))) (hf : PySem.W.isFn X.K (.ref g) = true) : OpR X (compareOp .In) (rOwnIn X C den) := by
  intro pins s σ H y x u v Q I ry rx h
  obtain ⟨a, b, dx, dy, fs, gs, rfl, rfl, ha, hb, F, m, ds, S, hst, rep, post⟩ := h
  cases (show v = Value.ref a from rx)
  cases (show u = Value.ref b from ry)
  obtain ⟨mA, J, _⟩ := ins_get I.hok ha
  obtain ⟨od, J, _⟩ := J.look
  obtain ⟨m', hF⟩ := I.fr
  refine PySem.W.in_K hF I.ok.mod.kin J hs hf (wpAny_mono (run_own G ok hk I hst rep post) (fun w s' z => ?_) fun _ _ x => x)
  obtain ⟨z', H', I', rz, kk, rfl, qz⟩ := z
  cases (show w = Value.bool kk from rz)
  exact wpAny_truthy_bool ⟨.bl kk, H', I', rfl, qz⟩
theorem k_own : R2K X (rOwn X C den) (fOwn C den) := by
  intro H S F m x y dx dy Q E h rx ry p
  unfold fOwn at p
  cases e1 : insAt C S dx with
  | none => rw [e1] at p; exact p.elim
  | some z =>
    cases e2 : insAt C S dy with
    | none => rw [e1, e2] at p; exact p.elim
    | some z' =>
      rw [e1, e2] at p
      obtain ⟨i1, f1⟩ := z
      obtain ⟨i2, f2⟩ := z'
      obtain ⟨rfl, es1, a, d1, v1, rfl, l1, h1, kv1⟩ := insAt_ok h rx e1
      obtain ⟨rfl, es2, b, d2, v2, rfl, l2, h2, kv2⟩ := insAt_ok h ry e2
      exact ⟨a, b, d1, d2, v1, v2, rfl, rfl, h1, h2, F, m, _, S, h, .cons rx (.cons ry .nil), nox_post p⟩
theorem post_bl {mg : Str → Option Value} {K : PySem.W.Frag} {H F : Hp} {m : List Addr} {r : Res D} {Q : Bool → Hp → Prop} {E : XW} (p : Post (fun _ _ (a b : Bool) => a = b) mg K H F m (r.bind asB) Q E) :
    Post (Rep K) mg K H F m r (fun v H' => ∃ k, v = .bl k ∧ Q k H') E := Post.bind p fun d S v H' F' m' h' x' rv q => by
  cases rv with
  | bl b => exact ⟨b, rfl, q _ H' F' m' h' (Ext.refl _ _ _) rfl⟩
  | _ => exact q.elim
theorem k_ownB : RCK X (rOwn X C den) (fOwnB C den) := by
  intro H S F m x y dx dy Q E h rx ry p
  unfold fOwnB at p
  cases e1 : insAt C S dx with
  | none => rw [e1] at p; exact p.elim
  | some z =>
    cases e2 : insAt C S dy with
    | none => rw [e1, e2] at p; exact p.elim
    | some z' =>
      rw [e1, e2] at p
      obtain ⟨i1, f1⟩ := z
      obtain ⟨i2, f2⟩ := z'
      obtain ⟨rfl, es1, a, d1, v1, rfl, l1, h1, kv1⟩ := insAt_ok h rx e1
      obtain ⟨rfl, es2, b, d2, v2, rfl, l2, h2, kv2⟩ := insAt_ok h ry e2
      exact ⟨a, b, d1, d2, v1, v2, rfl, rfl, h1, h2, F, m, _, S, h, .cons rx (.cons ry .nil), nox_post (post_bl p)⟩
theorem k_ownIn : RCK X (rOwnIn X C den) (fOwnIn C den) := by
  intro H S F m y x dy dx Q E h ry rx p
  unfold fOwnIn at p
  cases e1 : insAt C S dx with
  | none => rw [e1] at p; exact p.elim
  | some z =>
    cases e2 : insAt C S dy with
    | none => rw [e1, e2] at p; exact p.elim
    | some z' =>
      rw [e1, e2] at p
      obtain ⟨i1, f1⟩ := z
      obtain ⟨i2, f2⟩ := z'
      obtain ⟨rfl, es1, a, d1, v1, rfl, l1, h1, kv1⟩ := insAt_ok h rx e1
      obtain ⟨rfl, es2, b, d2, v2, rfl, l2, h2, kv2⟩ := insAt_ok h ry e2
      refine ⟨a, b, d1, d2, v1, v2, rfl, rfl, h1, h2, F, m, _, S, h, .cons rx (.cons ry .nil), ?_⟩
      refine nox_post (E := E) ?_
      refine Post.bind p fun d S' v H' F' m' h' x' rv q => ?_
      cases rv with
      | bl b => exact ⟨b, rfl, b, rfl, q _ H' F' m' h' (Ext.refl _ _ _) rfl⟩
      | _ => exact q.elim
end
end DL

/-! DL: x != y where the class has an own == and no own !=. -/
namespace DL
open PySem PySem.Spec PyProof.Rows L2
section
variable {prog : Program} {w : World} {A : Around} {E : Value → Shared → Prop} {s : Shared} {K : PySem.W.Frag} {x C f : Addr} {ox : Obj} {od : Option Obj} {b : Value}
theorem ifBound_objNe {M : Model} {args : List Value} {Q : Option Value → Shared → Prop} (X : K.In s.heap) (I : PySem.W.InstAt s.heap x ox C od) (hs : PySem.W.findIn K (.ref C) "__ne__" = some (some (.builtin "object.__ne__")))
    (h : wpAny M A (call (.builtin "object.__ne__") (.ref x :: args)) (fun v => Q (some v)) E s) : wpAny M A (callSpecialIfBound? (.ref x) "__ne__" args) Q E s := by
  simp only [callSpecialIfBound?, bindSpecialIfBound?]
  refine wpAny_holding (wpAny_bind (wpAny_bind (wpAny_bind (I.type.here ((PySem.W.looks_findIn X hs).here ?_)))))
  refine wpAny_bind (wpAny_askSetting (wpAny_ite ?_))
  have fin : wpAny M A (call (.builtin "object.__ne__") ([.ref x] ++ args) >>= fun v => pure (some v)) Q E s := wpAny_bind (wpAny_mono h (fun v s' h' => wpAny_pure h') fun _ _ h' => h')
  split
  · exact wpAny_bind (wpAny_of_eq (PySem.F.cmp_object.ne.bind _) (wpAny_pure (by exact fin)))
  · exact wpAny_tryCatch (wpAny_bind (wpAny_of_eq (PySem.F.cmp_object.ne.bind _) (wpAny_pure (by exact fin))))
theorem entry_ne {M : Model} {Q : Fin → Shared → Prop} (hu : A.units < cLine) (X : K.In s.heap) (I : PySem.W.InstAt s.heap x ox C od) (hs : PySem.W.findIn K (.ref C) "__eq__" = some (some (.ref f))) (hf : PySem.W.isFn K (.ref f) = true)
    (h : wpAny M A (call (.ref f) [.ref x, b]) (fun v s' => ∃ k, v = .bool k ∧ Q (.done (.ret (.bool (!k)))) s') E s) : wpAny M A (Builtin.«object.__ne__» ⟨[.ref x, b], []⟩) Q E s := by
  unfold Builtin.«object.__ne__»
  refine wpAny_bind (wpAny_of_eq (a := ((Value.ref x : Value), [b])) (by first | rfl | (simp only [slotArgs]; rfl)) ?_)
  dsimp only
  refine wpAny_bind (wpAny_cRoomFor hu ?_)
  refine wpAny_bind (PySem.W.ifBound_K X I hs hf (wpAny_mono h (fun v s' hv => ?_) fun _ _ e => e))
  obtain ⟨k, rfl, hq⟩ := hv
  dsimp only
  exact wpAny_bind (wpAny_truthy_bool (wpAny_pure hq))
end
section
variable {X : Cx} {C g : Addr} {k j : Nat} {den : List D → Sto → Res D}
theorem run_ownA {A : Around} {pins : List (Addr × Obj)} {s : Shared} {σ : L2.St} {H : Hp} {Q : VK} {a b : Addr} {F : Hp} {m : List Addr} {ds : List D} {S : Sto} {E : Value → Shared → Prop} (G : FnG X.prog X.w X.K X.mg X.base k g 2 den) (hr : Room k A) (grd : A.guards = some []) (e0 : Env0 X.prog X.w X.K X.mg X.base A X.stack s H)
    (I : Inv X pins σ H s) (hst : HSt X.K H S F m) (rep : RepL X.K F m ds [.ref a, .ref b]) (post : Post (Rep X.K) X.mg X.K H F m (den ds S) Q (fun _ _ _ => False)) :
    wpAny (model X.prog X.w) A (call (.ref g) [.ref a, .ref b]) (EP X pins σ Q) E s :=
  wpAny_call (codeAny_mono (G.run A X.stack s H [.ref a, .ref b] [.ref a, .ref b] Q (fun _ _ _ => False) F m ds S hr grd e0 (.cons rfl (.cons rfl .nil)) rfl hst rep post) fun z s' hz => by
    cases z with
    | error u =>
      obtain ⟨_, _, _, _, _, _, _, _, _, _, _, _, z⟩ := hz
      exact z.elim
    | ok fl =>
      cases fl with
      | ret u => exact I.after hz
      | next => exact hz.elim
      | brk => exact hz.elim
      | cont => exact hz.elim)
/-- x != y: the opposite of the own == -/
def rOwnNe (X : Cx) (C : Addr) (den : List D → Sto → Res D) : R2 := fun x y H Q => rOwn X C den x y H fun v H' => ∃ k, v = .bl k ∧ Q (.bl (!k)) H'
theorem op_ownNe (G : FnG X.prog X.w X.K X.mg X.base k g 2 den) (ok : XOk X j) (hk : k + 1 ≤ j) (hs : PySem.W.findIn X.K (.ref C) "__eq__" = some (some (.ref g))) (hf : PySem.W.isFn X.K (.ref g) = true) (hn : PySem.W.findIn X.K (.ref C) "__ne__" = some (some (.builtin "object.__ne__")))
    (hm : PySem.W.mroIn X.K C (.type "object") = some true) : OpR X (compareOp .NotEq) (rOwnNe X C den) := by
  intro pins s σ H x y v u Q I rx ry h
  obtain ⟨a, b, dx, dy, fs, gs, rfl, rfl, ha, hb, F, m, ds, S, hst, rep, post⟩ := h
  cases (show v = Value.ref a from rx)
  cases (show u = Value.ref b from ry)
  obtain ⟨mA, J, _⟩ := ins_get I.hok ha
  obtain ⟨mB, J', _⟩ := ins_get I.hok hb
  obtain ⟨od, J, _⟩ := J.look
  obtain ⟨od', J', _⟩ := J'.look
  have hr : Room (k + 1) X.A := ok.room.mono hk
  have grd : X.A.in1.guards = some [] := by
    have gg := ok.grd
    first
    | exact gg
    | (simp [Around.in1, Around.deeper, Around.under, Code.guards, Code.isGuard, pushGuards, gg])
  have one : wpAny (model X.prog X.w) X.A (tryCompare (.ref a) (cmpInfo .NotEq).2.1 (.ref b)) (fun r s' => ∃ w, r = some w ∧ EP X pins σ Q w s') X.xe s := by
    unfold tryCompare
    refine wpAny_bind (ifBound_objNe I.kIn J hn (wpAny_call (codeAny_call_builtin PySem.F.cmp_object.ne.plain PySem.F.cmpEntry_ne (PySem.W.check_slot PySem.F.cmpKind_ne PySem.F.cmpSplit_ne (J.type.andThen (PySem.W.looks_mroIn I.kIn hm)) (PySem.F.cmpArgs_ne _ _)
      (entry_ne hr.in1.units0 I.kIn J hs hf (wpAny_mono (run_ownA (A := X.A.in1) G hr.in1 grd I.env0.in1 I hst rep post) (fun w s' z => ?_) fun _ _ x => x))))))
    obtain ⟨z', H', I', rz, kk, rfl, qz⟩ := z
    cases (show w = Value.bool kk from rz)
    exact ⟨kk, rfl, wpAny_pure ⟨_, rfl, .bl (!kk), H', I', rfl, qz⟩⟩
  show wpAny (model X.prog X.w) X.A (richCompare .NotEq (.ref a) (.ref b)) (EP X pins σ Q) X.xe s
  unfold richCompare
  simp only [oneThing_ref]
  refine wpAny_holding (wpAny_bind (wpAny_cRoomFor ok.room.units0 ?_))
  refine wpAny_bind (J.type.here (wpAny_bind (J'.type.here ?_)))
  split
  · rename_i q
    exact absurd q (by simp)
  · refine wpAny_bind (wpAny_pure ?_)
    simp only [Bool.false_eq_true, if_false]
    refine wpAny_bind (wpAny_mono one (fun r s' z => ?_) fun _ _ e => e)
    obtain ⟨v, rfl, hq⟩ := z
    exact wpAny_pure hq
def fOwnNe (C : Addr) (den : List D → Sto → Res D) (x y : D) (S : Sto) : Res Bool := (fOwnB C den x y S).bind fun b S1 => .ok (!b) S1
theorem k_ownNe : RCK X (rOwnNe X C den) (fOwnNe C den) := by
  intro H S F m x y dx dy Q E h rx ry p
  unfold fOwnNe fOwnB at p
  cases e1 : insAt C S dx with
  | none => rw [e1] at p; exact p.elim
  | some z =>
    cases e2 : insAt C S dy with
    | none => rw [e1, e2] at p; exact p.elim
    | some z' =>
      rw [e1, e2] at p
      obtain ⟨i1, f1⟩ := z
      obtain ⟨i2, f2⟩ := z'
      obtain ⟨rfl, es1, a, d1, v1, rfl, l1, h1, kv1⟩ := insAt_ok h rx e1
      obtain ⟨rfl, es2, b, d2, v2, rfl, l2, h2, kv2⟩ := insAt_ok h ry e2
      refine ⟨a, b, d1, d2, v1, v2, rfl, rfl, h1, h2, F, m, _, S, h, .cons rx (.cons ry .nil), ?_⟩
      refine nox_post (E := E) ?_
      have p : Post (fun _ _ (a b : Bool) => a = b) X.mg X.K H F m ((den [.loc i1, .loc i2] S).nox.bind fun d S1 => (asB d S1).bind fun b S2 => .ok (!b) S2) Q E := by
        have e : ((den [.loc i1, .loc i2] S).nox.bind asB).bind (fun b S1 => .ok (!b) S1) = (den [.loc i1, .loc i2] S).nox.bind fun d S1 => (asB d S1).bind fun b S2 => (.ok (!b) S2 : Res Bool) := by cases (den [.loc i1, .loc i2] S).nox <;> rfl
        rw [← e]; exact p
      refine Post.bind p fun d S' v H' F' m' h' x' rv q => ?_
      cases rv with
      | bl b => exact ⟨b, rfl, !b, rfl, q _ H' F' m' h' (Ext.refl _ _ _) rfl⟩
      | _ => exact q.elim
end
end DL

/-! DL: isinstance of own classes, self.f += e. -/
namespace DL
open PySem PySem.Spec PyProof.Rows L2
variable {EX : XP} {ES : XPs}
/-- the class of an object -/
def clsAt (S : Sto) : D → Option Addr
  | .loc n => match S[n]? with
    | some (.ins C _) => some C
    | _ => none
  | _ => none
structure IsC (K : PySem.W.Frag) (C : Addr) : Prop where
  cl : Cls K C
  kc : PySem.W.findIn K (.ref C) "__class__" = some (some (.builtin "object.__class__"))
  kg : PySem.W.specialIn K (.builtin "object.__class__") "__get__" = some (some (.builtin "getset_descriptor.__get__"))
  kt : PySem.W.takesIn K (.builtin "object.__class__") = some true
  ko : PySem.W.mroIn K C (.type "object") = some true
def baseTys : List String := ["NoneType", "bool", "int", "str", "tuple", "list", "dict"]
theorem kit_ownT {K : PySem.W.Frag} {C : Addr} (c : Cls K C) (ht : PySem.W.typeIn K (.ref C) = some (.type "type")) : ∀ t ∈ baseTys, PySem.W.kitOne K (.type t) (.ref C) = some false := by
  obtain ⟨cd, hc, _⟩ := PySem.W.any_some c.hd
  intro t h
  have e0 : ((Value.type t : Value) == Value.ref C) = false := rfl
  unfold PySem.W.kitOne PySem.W.kitCls
  rw [if_neg (by rw [e0]; exact Bool.false_ne_true)]
  dsimp only
  rw [hc, ht]
  simp only [baseTys, List.mem_cons, List.not_mem_nil, or_false] at h
  rcases h with rfl | rfl | rfl | rfl | rfl | rfl | rfl <;> rfl
theorem kit_ownC {K : PySem.W.Frag} {A C : Addr} {b : Bool} (c : Cls K C) (ht : PySem.W.typeIn K (.ref C) = some (.type "type")) (h1 : PySem.W.mroIn K C (.ref C) = some true) (h2 : PySem.W.mroIn K A (.ref C) = some b) : PySem.W.kitOne K (.ref A) (.ref C) = some b := by
  obtain ⟨cd, hc, _⟩ := PySem.W.any_some c.hd
  unfold PySem.W.kitOne PySem.W.kitCls
  by_cases e : ((Value.ref A : Value) == Value.ref C) = true
  · rw [if_pos e]
    have e2 : A = C := by simpa using e
    subst e2
    exact h1.symm.trans h2
  · rw [if_neg e]
    dsimp only
    rw [hc, ht]
    exact h2
def fIsO (C : Addr) (tab : List (Addr × Bool)) (ds : List D) (S : Sto) : Res D := match ds with
  | [d, .adr C'] => if C' = C then match clsAt S d with
    | some A => match tab.lookup A with
      | some b => .ok (.bl b) S
      | none => .bad
    | none => match tyOf S d with
      | some t => if t ∈ baseTys then .ok (.bl false) S else .bad
      | none => .bad
    else .bad
  | _ => .bad
theorem look_mem {α β : Type} [BEq α] [LawfulBEq α] {a : α} {b : β} : ∀ {l : List (α × β)}, l.lookup a = some b → (a, b) ∈ l
  | [], e => by cases e
  | (x, y) :: r, e => by
    rw [List.lookup_cons] at e
    by_cases hg : (a == x) = true
    · rw [hg] at e
      cases e
      obtain rfl : a = x := eq_of_beq hg
      exact List.mem_cons_self
    · have hg' : (a == x) = false := by simpa using hg
      rw [hg'] at e
      exact List.mem_cons_of_mem _ (look_mem e)
section
variable {X : Cx} {C : Addr} {tab : List (Addr × Bool)}
theorem k_isO (hb : ∀ t ∈ baseTys, PySem.W.kitOne X.K (.type t) (.ref C) = some false) (ht : ∀ p ∈ tab, IsC X.K p.1 ∧ PySem.W.kitOne X.K (.ref p.1) (.ref C) = some p.2) : RLK X (rIsi X.K) (fIsO C tab) := by
  intro H S F m xs ds Q E h r p
  unfold fIsO at p
  split at p
  · rename_i d C'
    cases r with
    | cons a b =>
      cases b with
      | cons a2 b2 =>
        cases b2
        cases a2
        by_cases hc : C' = C
        · rw [if_pos hc] at p
          subst hc
          split at p
          · rename_i A e
            split at p
            · rename_i k el
              obtain ⟨I, ek⟩ := ht _ (look_mem el)
              cases a with
              | @loc n q l =>
                unfold clsAt at e
                dsimp only at e
                cases es : S[n]? with
                | none => rw [es] at e; cases e
                | some o =>
                  rw [es] at e
                  cases o with
                  | ins C2 fs' =>
                    cases e
                    obtain ⟨_, ho, hH, dx, vs, rfl, q⟩ := h.sto _ q _ l es (by intro z; cases z)
                    exact ⟨_, _, _, _, k, rfl, .own C', .base (.ins hH I.cl I.kc I.kg I.kt I.ko), ek, p _ H F m h (Ext.refl _ _ _) (.bl k)⟩
                  | _ => cases e
              | _ => cases e
            · exact p.elim
          · split at p
            · rename_i t e
              by_cases hm : t ∈ baseTys
              · rw [if_pos hm] at p
                exact ⟨_, _, _, _, false, rfl, .own C', ty_rep h a e, hb t hm, p _ H F m h (Ext.refl _ _ _) (.bl false)⟩
              · rw [if_neg hm] at p; exact p.elim
            · exact p.elim
        · rw [if_neg hc] at p; exact p.elim
  · exact p.elim
variable {x : Str} {p : Pos}
theorem de_cls (hg : Gl X x) (hm : X.mg x = some (.ref C)) (hdb : (x == ("__debug__" : Str)) = false := by decide) : DE X (.Name x p) (dK (.adr C)) :=
  de_glob (t := .ref C) hg hm rfl (fun _ _ _ => .adr C) hdb
theorem wp_isO {S : Sto} {d : D} {A : Addr} {b : Bool} {Q : D → Sto → Prop} (e1 : clsAt S d = some A) (e2 : tab.lookup A = some b) (q : Q (.bl b) S) : WpE EX (fIsO C tab [d, .adr C] S) Q := by
  unfold fIsO
  dsimp only
  rw [if_pos rfl, e1]
  dsimp only
  rw [e2]
  exact q
theorem wp_isO0 {S : Sto} {d : D} {t : String} {Q : D → Sto → Prop} (e1 : clsAt S d = none) (e2 : tyOf S d = some t) (e3 : t ∈ baseTys) (q : Q (.bl false) S) : WpE EX (fIsO C tab [d, .adr C] S) Q := by
  unfold fIsO
  dsimp only
  rw [if_pos rfl, e1]
  dsimp only
  rw [e2]
  dsimp only
  rw [if_pos e3]
  exact q
end
/-! ### o.f += e -/
def dAugF (C : Addr) (fl : Str) (f : D → D → Sto → Res D) (go gv : Ev D) : St' := fun ρ S => (go ρ S).bindS ρ fun x S1 => match insAt C S1 x with
  | some (n, fs) => match fs.lookup fl with
    | some d => (gv ρ S1).bindS ρ fun y S2 => (f d y S2).bindS ρ fun z S3 => match insAt C S3 x with
      | some (_, fs') => if fs'.length < 1000 then .nx ρ (S3.set n (.ins C (putO fl z fs'))) else .bad
      | none => .bad
    | none => .bad
  | none => .bad
section
variable {X : Cx} {o value : Expr} {fl : Str} {pos tpos : Pos} {go gv : Ev D} {C : Addr} {op : Operator} {rd : V → V → Hp → VK → Prop} {f : D → D → Sto → Res D}
theorem ds_augF (hop : InOp X op rd) (hf : R2K X rd f) (ho : DE X o go) (hv : DE X value gv) (c : Cls X.K C) (na : NoAttr X.K C fl) : DS X (.AugAssign (.Attribute o fl tpos) op value pos) (dAugF C fl f go gv) := by
  refine ⟨fun W tk => ?_⟩
  obtain ⟨to, po, ro⟩ := ho.ex W tk
  obtain ⟨tv, pv, rv⟩ := hv.ex W tk
  refine ⟨_, ps_fldaug (hop := hop) po pv, fun σ H ρ S F m N sl h q => ?_⟩
  refine ro σ H ρ S F m _ sl h (Post.bindS sl q fun x S1 y H1 F1 m1 h1 x1 r1 p1 => ?_)
  cases ei : insAt C S1 x with
  | none => rw [ei] at p1; exact p1.elim
  | some z =>
    obtain ⟨n, fs⟩ := z
    rw [ei] at p1
    dsimp only at p1
    obtain ⟨rfl, es, a, dx, vs, rfl, l, hH, kv⟩ := insAt_ok h1 r1 ei
    cases el : fs.lookup fl with
    | none => rw [el] at p1; exact p1.elim
    | some d =>
      rw [el] at p1
      dsimp only at p1
      obtain ⟨w, ew, rw1⟩ := kv_look kv el
      refine ⟨a, C, dx, vs, w, rfl, hH, c, na, ew, ?_⟩
      refine rv σ H1 ρ S1 F1 m1 _ (sl.le x1.le) h1 (Post.bindS (sl.le x1.le) p1 fun y S2 u H2 F2 m2 h2 x2 r2 p2 => ?_)
      refine hf H2 S2 F2 m2 w u d y _ _ h2 (rw1.le x2.le) r2 (Post.bindS (sl.le (x1.trans x2).le) p2 fun z S3 u3 H3 F3 m3 h3 x3 r3 p3 => ?_)
      have r4 := (r1.le x2.le).le x3.le
      cases ei3 : insAt C S3 (.loc n) with
      | none => rw [ei3] at p3; exact p3.elim
      | some z3 =>
        obtain ⟨n3, fs3⟩ := z3
        rw [ei3] at p3
        dsimp only at p3
        obtain ⟨e0, es3, a3, dx3, vs3, e1, l3, hH3, kv3⟩ := insAt_ok h3 r4 ei3
        cases e0
        cases e1
        by_cases hl : fs3.length < 1000
        · rw [if_pos hl] at p3
          obtain ⟨h4, x4⟩ := h3.write l3 es3 (by intro z; cases z) (o := .ins C (putO fl z fs3)) (ho := .ins C dx3 (putF fl u3 vs3)) ⟨dx3, _, rfl, kv_putO r3 kv3⟩
          exact ⟨dx3, vs3, hH3, by rw [← kv_len kv3]; exact hl, p3 σ _ F3 m3 (((sl.le x1.le).le x2.le).le (x3.trans x4).le) h4 x4⟩
        · rw [if_neg hl] at p3; exact p3.elim
end
theorem ws_augF {ρ : DEnv} {S : Sto} {C : Addr} {fl : Str} {f : D → D → Sto → Res D} {go gv : Ev D} {N B R' : DEnv → Sto → Prop} {R : D → Sto → Prop}
    (q : WpE (ES.at ρ) (go ρ S) fun x S1 => ∃ n fs d, x = .loc n ∧ S1[n]? = some (.ins C fs) ∧ fs.lookup fl = some d ∧ WpE (ES.at ρ) (gv ρ S1) fun y S2 => WpE (ES.at ρ) (f d y S2) fun z S3 => ∃ fs', S3[n]? = some (.ins C fs') ∧ fs'.length < 1000 ∧ N ρ (S3.set n (.ins C (putO fl z fs')))) : WsE ES (dAugF C fl f go gv ρ S) N R B R' := by
  unfold dAugF
  rw [ws_bindS]
  refine WpE.mp q fun x S1 h => ?_
  obtain ⟨n, fs, d, rfl, e1, e2, h⟩ := h
  rw [insAt_loc e1]
  dsimp only
  rw [e2]
  dsimp only
  rw [ws_bindS]
  refine WpE.mp h fun y S2 h => ?_
  rw [ws_bindS]
  refine WpE.mp h fun z S3 h => ?_
  obtain ⟨fs', e3, e4, h⟩ := h
  rw [insAt_loc e3]
  dsimp only
  rw [if_pos e4]
  exact h
def fAddI (x y : D) (S : Sto) : Res D := match x, y with
  | .int i, .int j => .ok (.int (i + j)) S
  | _, _ => .bad
theorem k_addI {X : Cx} : R2K X rAdd fAddI := by
  intro H S F m x y dx dy Q E h rx ry p
  unfold fAddI at p
  split at p
  · cases rx
    cases ry
    exact ⟨_, _, rfl, rfl, p _ H F m h (Ext.refl _ _ _) (.int _)⟩
  · exact p.elim
theorem Post.mono {α β : Type} {R : Hp → List Addr → α → β → Prop} {mg : Str → Option Value} {K : PySem.W.Frag} {H F : Hp} {m : List Addr} {r : Res α} {Q Q' : β → Hp → Prop} {E : XW} (p : Post R mg K H F m r Q E) (hq : ∀ v H', Q v H' → Q' v H') : Post R mg K H F m r Q' E := by
  cases r with
  | ok a S' => exact fun b H' F' m' h1 x1 r1 => hq _ _ (p b H' F' m' h1 x1 r1)
  | exc x S' => exact p
  | bad => exact p
theorem mono_own {X : Cx} {C : Addr} {den : List D → Sto → Res D} (x y : V) (H : Hp) (Q Q' : VK) (hq : ∀ v H', Q v H' → Q' v H') (h : rOwn X C den x y H Q) : rOwn X C den x y H Q' := by
  obtain ⟨a, b, dx, dy, fs, gs, rfl, rfl, ha, hb, F, m, ds, S, hst, rep, post⟩ := h
  exact ⟨a, b, dx, dy, fs, gs, rfl, rfl, ha, hb, F, m, ds, S, hst, rep, Post.mono post hq⟩
theorem mono_ownIn {X : Cx} {C : Addr} {den : List D → Sto → Res D} (x y : V) (H : Hp) (Q Q' : VK) (hq : ∀ v H', Q v H' → Q' v H') (h : rOwnIn X C den x y H Q) : rOwnIn X C den x y H Q' :=
  mono_own _ _ _ _ _ (fun v H' ⟨k, e, q⟩ => ⟨k, e, hq _ _ q⟩) h
theorem mono_ownNe {X : Cx} {C : Addr} {den : List D → Sto → Res D} (x y : V) (H : Hp) (Q Q' : VK) (hq : ∀ v H', Q v H' → Q' v H') (h : rOwnNe X C den x y H Q) : rOwnNe X C den x y H Q' :=
  mono_own _ _ _ _ _ (fun v H' ⟨k, e, q⟩ => ⟨k, e, hq _ _ q⟩) h
end DL

/-! DL: tuples known to have no dict: made by tuple(list), methods count, index. -/
namespace DL
open PySem PySem.Spec PyProof.Rows L2
section
variable {X : Cx}
def FzT (H : Hp) (a : Addr) (vs : List V) : Prop := ∃ o, H a = some (.frz o (.tup vs)) ∧ o.dict = none
theorem push_new (h : Heap) (cl : Value) (d : Option Addr) (a : Array Value) (n : Nat) (sl : Array (Option Value)) : (h.push ⟨cl, d, .seq a n, sl⟩).get? h.objs.size = some ⟨cl, d, .seq a n, sl⟩ := by simp [Heap.push, Heap.get?]
/-- tuple(list), the dict told -/
theorem call_tupleZ : CallR X (.type "tuple") (fun xs H Q => ∃ p ys, xs = [.ref p] ∧ SqL X.K H p ys ∧ ∀ l o, H l = none → o.dict = none → Q (.ref l) (upd H l (.frz o (.tup ys)))) := by
  intro pins s σ H xs us Q I r h
  obtain ⟨p, ys, rfl, hq, q⟩ := h
  obtain ⟨u, rfl, ru⟩ := vals1 r
  obtain rfl : u = Value.ref p := ru
  obtain ⟨its, r', pl, hz⟩ := I.list hq
  have hlen := r'.length
  refine call_tuple_list pl.isList (fun h' kp => ?_) (by rw [List.size_toArray, ← hlen]; exact hz)
  have I1 := I.kept (t' := s.toks) kp
  have I2 := Inv.laid (t' := s.toks) (a := h'.objs.size) (o := .frz { cls := .type "tuple", data := .seq its.toArray } (.tup ys)) I1 (h' := h'.push { cls := .type "tuple", data := .seq its.toArray }) (fun b o e => Heap.get?_push_of_some _ e) (Nat.le_refl _)
    ⟨push_new _ _ _ _ _ _, hz, its, r', PyProof.Rows.IsTup.new h' its.toArray⟩
  exact ⟨.ref h'.objs.size, _, I2, rfl, q _ _ (I1.hok.fresh (Nat.le_refl _)) rfl⟩
def fTupleZ (ds : List D) (S : Sto) : Res D := match ds with
  | [d] => match seqD S d with
    | some (.lst, xs) => .ok (.tupZ xs) S
    | _ => .bad
  | _ => .bad
theorem k_tupleZ : RLK X (fun xs H Q => ∃ p ys, xs = [.ref p] ∧ SqL X.K H p ys ∧ ∀ l o, H l = none → o.dict = none → Q (.ref l) (upd H l (.frz o (.tup ys)))) fTupleZ := by
  intro H S F m xs ds Q E h r p
  unfold fTupleZ at p
  split at p
  · cases r with
    | cons a b =>
      cases b
      split at p
      · rename_i ys e
        obtain ⟨l, vs, rfl, h1, r1, z⟩ := seq_lst h a e
        exact ⟨l, vs, rfl, .inl (.inl h1), fun b o n hd => p _ _ _ m (h.froz n _) (h.frozE n _) (.tupZ z ⟨o, upd_same, hd⟩ (r1.le (h.frozE n _).le))⟩
      · exact p.elim
  · exact p.elim
/-! ### methods -/
def tBMZ (r : V → List V → Hp → VK → Prop) (to : TE) (t : TA) : TE := fun σ H Q => to σ H fun x H1 => (∃ p vs, x = .ref p ∧ FzT H1 p vs) ∧ t σ H1 fun xs H2 => r x xs H2 Q
theorem pe_bmZ {o e : Expr} {es : List Expr} {to : TE} {t : TA} {name : Str} {apos cpos : Pos} {id : String} {r : V → List V → Hp → VK → Prop} (slot : Slot "tuple" name id) (hty : typeOf (.builtin id) = pure (.type "method_descriptor")) (hm : MtR X id r) (ho : PE X o to) (ha : PA X (e :: es) t)
    (hbase : attributeBase o name X.env (eval o X.env) = eval o X.env := by rfl)
    (hfew : ((((backTo cpos (starEach (e :: es) X.env)).all fun x => !x.fst) && (backToKw cpos (keywordEach [] X.env)).all fun x => x.fst.isSome) && decide (((e :: es).length + ([] : List (Option Str × Expr)).length + if ([] : List (Option Str × Expr)).isEmpty = true then 0 else 1) < 30)) = true := by rfl)
    (hline : (apos.endLine == cpos.line) = true := by rfl) (hs : starEach (e :: es) X.env = (false, eval e X.env) :: starEach es X.env := by rfl) (hplain : ((backTo cpos (starEach es X.env)).any fun x => x.fst) = false := by rfl) :
    PE X (.Call (.Attribute o name apos) (e :: es) [] cpos) (tBMZ r to t) := by
  refine ⟨fun pins s σ H Q I h => wpAny_Call_method_late hbase hfew hline rfl (thn (ho.run pins s σ H _ I h) fun v s1 ⟨x, H1, I1, r1, ⟨p, vs, ex, ob, e1, hd⟩, q1⟩ => ?_)⟩
  subst ex
  obtain rfl : v = Value.ref p := r1
  obtain ⟨g, hz, its, hv, ht⟩ := I1.hok _ _ e1
  refine ⟨"tuple", id, PySem.F.plainAttrs_tuple, slot, hty, ht.typeIs, fun a ea => ?_, ?_⟩
  · cases ea
    exact ⟨ob, g, hd⟩
  · rw [hs]
    have hA := ha.run cpos pins s1 σ H1 (fun xs H2 => r (.ref p) xs H2 Q) I1 q1
    rw [hs] at hA
    refine Calls.callWith_builtin (by simpa [backTo] using hplain) (Calls.evalArgs_plain (thn hA fun us s2 ⟨vs2, H2, I2, r2, q2⟩ => ?_))
    exact hm pins s2 σ H2 (.ref p) vs2 _ us Q I2 rfl r2 q2
def rCntT (K : PySem.W.Frag) : RM := fun x xs H Q => ∃ (p : Addr) (ys : List V) (y : V), x = .ref p ∧ xs = [y] ∧ SqT K H p ys ∧ flatV y = true ∧ ys.all flatV = true ∧ Q (.int ((ys.countP fun z => eqV z y : Nat) : Int)) H
theorem mt_countT : MtR X "tuple.count" (rCntT X.K) := by
  intro pins s σ H x xs v us Q I rx rxs h
  obtain ⟨p, ys, y, rfl, rfl, hs, fy, fys, q⟩ := h
  cases rx
  obtain ⟨u, rfl, ru⟩ := rxs.one
  obtain ⟨its, rv, pl, hlen⟩ := I.tuple hs
  obtain ⟨⟨cls, dd, dt, sl⟩, ho, hc, n, hd⟩ := pl
  simp only at hc hd
  subst hc hd
  refine call_meets PySem.F.slot_tuple_count ⟨_, ho, rfl⟩ PySem.F.entry_tuple_count (PySem.F.args_tuple_count_2 _ _) (SeqAt.tuple_countAt p its.toArray n dd sl u (eqU y)) ⟨ho, fun z hz => mem_eqAt ru fy rv fys z (by simpa using hz), ?_⟩
  have ec : its.toArray.toList.countP (eqU y) = ys.countP fun z => eqV z y := cnt_eqU rv fys
  exact ⟨.int ((ys.countP fun z => eqV z y : Nat) : Int), H, I.tok _, ⟨s.toks, by rw [← ec]⟩, q⟩
def dMz (f : D → List D → Sto → Res D) (go : Ev D) (gs : Ev (List D)) : Ev D := fun ρ S => (go ρ S).bind fun x S1 => match x with
  | .tupZ _ => (gs ρ S1).bind fun ds S2 => f x ds S2
  | _ => .bad
theorem repZ {K : PySem.W.Frag} {H F : Hp} {S : Sto} {m : List Addr} {xs : List D} {v : V} (h : HSt K H S F m) (r : Rep K F m (.tupZ xs) v) : ∃ p vs, v = .ref p ∧ FzT H p vs ∧ RepL K F m xs vs ∧ xs.length ≤ sizeLine := by
  cases r with
  | tupZ z f q =>
    obtain ⟨o, f, hd⟩ := f
    exact ⟨_, _, rfl, ⟨o, h.fz _ _ f, hd⟩, q, z⟩
theorem de_mz {o e : Expr} {es : List Expr} {name : Str} {apos cpos : Pos} {r : RM} {f : D → List D → Sto → Res D} {go : Ev D} {gs : Ev (List D)} (hf : RMK X r f) (ho : DE X o go) (ha : DA X (e :: es) gs)
    (hpe : ∀ {to : TE} {t : TA}, PE X o to → PA X (e :: es) t → PE X (.Call (.Attribute o name apos) (e :: es) [] cpos) (tBMZ r to t)) : DE X (.Call (.Attribute o name apos) (e :: es) [] cpos) (dMz f go gs) := by
  refine ⟨fun W tk => ?_⟩
  obtain ⟨to, po, ro⟩ := ho.ex W tk
  obtain ⟨ta, pa, ra⟩ := ha.ex W tk
  refine ⟨_, hpe po pa, fun σ H ρ S F m Q sl h q => ?_⟩
  refine ro σ H ρ S F m _ sl h (Post.bind q fun x S1 v H1 F1 m1 h1 x1 r1 p1 => ?_)
  split at p1
  · obtain ⟨p, vs, ev, hz, _, _⟩ := repZ h1 r1
    refine ⟨⟨p, vs, ev, hz⟩, ra σ H1 ρ S1 F1 m1 _ (sl.le x1.le) h1 (Post.bind p1 fun ds S2 vs H2 F2 m2 h2 x2 r2 p2 => ?_)⟩
    exact hf H2 S2 F2 m2 v vs _ ds Q _ h2 (r1.le x2.le) r2 p2
  · exact p1.elim
def fCountT (x : D) (ds : List D) (S : Sto) : Res D := match x, ds with
  | .tupZ xs, [y] => if flatD y = true ∧ xs.all flatD = true then .ok (.int ((xs.map vOf).countP fun z => eqV z (vOf y) : Nat)) S else .bad
  | _, _ => .bad
theorem km_countT : RMK X (rCntT X.K) fCountT := by
  intro H S F m x xs d ds Q E h r rs p
  unfold fCountT at p
  split at p
  · rename_i ys y
    obtain ⟨a, vs, rfl, ⟨o, h1, _⟩, rv, _⟩ := repZ h r
    cases rs with
    | cons a1 b1 =>
      cases b1
      split at p
      · rename_i hc
        obtain ⟨e1, f1⟩ := flat_rep a1 hc.1
        obtain ⟨e2, f2⟩ := flat_reps rv hc.2
        refine ⟨a, vs, _, rfl, rfl, .inl (.inr ⟨o, h1⟩), f1, f2, ?_⟩
        rw [e2, e1]
        exact p _ H F m h (Ext.refl _ _ _) (.int _)
      · exact p.elim
  · exact p.elim
def fIndexZ (x : D) (ds : List D) (S : Sto) : Res D := match x, ds with
  | .tupZ ys, [y] => if flatD y = true ∧ ys.all flatD = true then match firstAt y ys with
      | some j => .ok (.int (j : Nat)) S
      | none => .bad
    else .bad
  | _, _ => .bad
theorem km_indexZ : RMK X (rIndexT X.K) fIndexZ := by
  intro H S F m x xs d ds Q E h r rs p
  unfold fIndexZ at p
  split at p
  · rename_i ys y
    obtain ⟨a, vs, rfl, ⟨o, h1, _⟩, rv, _⟩ := repZ h r
    cases rs with
    | cons a1 b1 =>
      cases b1
      split at p
      · rename_i hc
        split at p
        · rename_i j ej
          obtain ⟨e1, f1⟩ := flat_rep a1 hc.1
          obtain ⟨e2, f2⟩ := flat_reps rv hc.2
          obtain ⟨g1, g2⟩ := first_at ej
          refine ⟨_, _, _, j, rfl, rfl, .inl (.inr ⟨o, h1⟩), f1, f2, ?_, ?_, p _ H F m h (Ext.refl _ _ _) (.int _)⟩
          · rw [e1, e2]; exact g1
          · rw [e1, e2]; exact g2
        · exact p.elim
      · exact p.elim
  · exact p.elim
end
end DL

/-! DL: exceptions: raising, catching; what may be called while one is handled. -/
namespace DL
open PySem PySem.Spec PyProof.Rows L2
variable {EX : XP} {ES : XPs}
/-! ### contexts where an exception may be handled -/
structure XQk (X : Cx) (k : Nat) : Prop where
  room : L2H.RoomH k X.A
  grd : X.A.guards = some []
  po : PassesOwn (model X.prog X.w) X.A X.env X.xe
  nd : X.N.Nodup
theorem XOk.q {X : Cx} {k : Nat} (o : XOk X k) : XQk X k := ⟨L2H.roomH_of o.room, o.grd, o.po, o.nd⟩
theorem XQk.q {X : Cx} {k : Nat} (o : XQk X k) : XQk X k := o
/-- the def at f does den, also while an exception is handled -/
structure FnQ (P : Program) (w : World) (K : PySem.W.Frag) (mg : Str → Option Value) (base : Heap) (k : Nat) (f : Addr) (n : Nat) (den : List D → Sto → Res D) : Prop where
  run : ∀ (A : Around) (outer : List PySem.Env) (s : Shared) (H : Hp) (us : List Value) (vs : List V) (Q : VK) (E : XK) (F : Hp) (m : List Addr) (ds : List D) (S : Sto), L2H.RoomH k A → A.guards = some [] → Env0 P w K mg base A outer s H → Vals vs us → vs.length = n →
    HSt K H S F m → RepL K F m ds vs → Post (Rep K) mg K H F m (den ds S) Q E → codeAny (model P w) A (.call (.ref f) ⟨us, []⟩) (CR (L2.CX P w) outer P w H s Q E) s
section
variable {P : Program} {w : World} {K : PySem.W.Frag} {mg : Str → Option Value} {base : Heap}
theorem FnQ.g {k : Nat} {f : Addr} {n : Nat} {den : List D → Sto → Res D} (G : FnQ P w K mg base k f n den) : FnG P w K mg base k f n den :=
  ⟨fun A outer s H us vs Q E F m ds S hr => G.run A outer s H us vs Q E F m ds S (L2H.roomH_of hr)⟩
abbrev coldA (A : Around) : Around := { A with handled := none }
/-- a def's body, whatever is handled -/
abbrev bodyQ (P : Program) (w : World) (K : PySem.W.Frag) (mg : Str → Option Value) (base : Heap) (N : List Str) (qual : Str) (st : Stmt) (f : Addr) (cdv : Value) (A : Around) (outer : List PySem.Env) (s : Shared) (H : Hp) (E : XK) : Cx :=
  { bodyX P w K mg base N qual st f cdv A outer s H E with calm := false }
theorem inv_startQ {N ps : List Str} {qual : Str} {st : Stmt} {f : Addr} {cdv : Value} {A : Around} {outer : List PySem.Env} {s s1 : Shared} {H : Hp} {E : XK} {us : List Value} {vs : List V} (S : FnScope N ps (defScope st)) (e0 : Env0 P w K mg base A outer s H) (hl : vs.length = ps.length) (r : Vals vs us)
    (x : InCallC s s.heap.objs.size (bindL (envOfC qual (defScope st) s.heap.objs.size f cdv).kindOf (ps.zip us) fun _ => none) (cellsFrom (s.heap.objs.size + 1) (defScope st).names []) (bindC (envOfC qual (defScope st) s.heap.objs.size f cdv).kindOf (ps.zip us) fun _ => none) s1) :
    Inv (bodyQ P w K mg base N qual st f cdv A outer s H E) [] (L2.start N vs) H s1 := by
  have I : Inv (bodyX P w K mg base N qual st f cdv (coldA A) outer s H E) [] (L2.start N vs) H s1 := inv_start S rfl ⟨e0.frames, e0.mod, e0.bs, e0.bsz, e0.funs, e0.frf, e0.hok, e0.bare⟩ hl r x
  exact ⟨⟨I.ok.mod, I.ok.kind, I.ok.glob, I.ok.blt, I.ok.above, I.ok.inj, I.ok.has, I.ok.cab, fun z => Bool.noConfusion (show false = true from z), I.ok.frames, I.ok.stk, I.ok.exf, I.ok.bs, I.ok.bsz, I.ok.noex, I.ok.exfs, I.ok.funs, I.ok.frf⟩, I.os, I.bare, I.base, I.loc, I.cell, I.free, I.freeC, I.pin, I.hok, I.len⟩
theorem fnQ {x qual : Str} {st : Stmt} {f : Addr} {fd : FuncData} {N ps : List Str} {k : Nat} {g : St'} (Fn : Fun K x qual st f fd) (S : FnScope N ps (defScope st))
    (hb : ∀ (kV doc pm : Value) (an : Option Addr) (cdv ct : Value) (us : List Value), us.length = ps.length → bindArgs (PySem.W.fnOf x qual (defArgs st) (defBody st) (defScope st) .none kV doc pm an cdv ct) ⟨us, []⟩ = pure (ps.zip us))
    (hbody : ∀ (cdv : Value) (A : Around) (outer : List PySem.Env) (s : Shared) (H : Hp) (E : XK), XQk (bodyQ P w K mg base N qual st f cdv A outer s H E) k → DSs (bodyQ P w K mg base N qual st f cdv A outer s H E) (defBody st) g) :
    FnQ P w K mg base (k + 1) f ps.length (runB g N.length) := by
  obtain ⟨oc, od, kV, doc, pm, an, cdv, ct, osl, rfl, lk, hcd⟩ := Fn.ex
  refine ⟨fun A outer s H us vs Q E F m ds T room grd e0 rv hn hst rep post => ?_⟩
  have inK : K.In s.heap := e0.mod.kin.keeps fun b o q => (e0.bs b o q).1
  have unl : s.heap.NoLimit := e0.mod.nolimit.keeps fun b o q => (e0.bs b o q).1
  have hus : us.length = ps.length := by rw [← rv.length, hn]
  have kinds : ∀ y ∈ ps.zip us, (defScope st).names.lookup y.1 = some .local ∨ ((defScope st).names.lookup y.1 = some .cell ∧ ((cellsFrom (s.heap.objs.size + 1) (defScope st).names []).lookup y.1).isSome = true) := by
    rintro ⟨y, v⟩ hy
    exact (S.par y (List.of_mem_zip hy).1).elim .inl fun q => .inr ⟨q, PySem.W.cellsFrom_some _ _ _ (.inl q)⟩
  refine codeAny_call_function room.depth (inK _ _ lk) rfl S.co S.gen rfl (PySem.W.codeRec_of inK hcd) (BindsTo.of_eq (hb kV doc pm an cdv ct us hus) _ _ _ _ ?_)
  refine wpAny_newFunctionEnv_cells S.kind kinds fun env henv s1 entered => ?_
  subst henv
  refine ⟨unl.keeps entered.toInCall.keep, codeAny_func ?_⟩
  have rm := room.deeper (envOfC qual (defScope st) s.heap.objs.size f cdv)
  have ok : XQk (bodyQ P w K mg base N qual st f cdv A outer s H E) k := ⟨rm, grd_deeper A _ grd, passes_of rfl, S.nd⟩
  obtain ⟨t, ht, rd⟩ := (hbody cdv A outer s H E ok).ex _ (takes_of rfl rfl rfl rfl)
  have I : Inv (bodyQ P w K mg base N qual st f cdv A outer s H E) [] (L2.start N vs) H s1 := inv_startQ S e0 hn rv entered
  have hvN : vs.length ≤ N.length := by
    have z := congrArg List.length S.pre
    rw [List.length_take] at z
    omega
  have want : SPost mg K H F m (g (startE N.length ds) T) { nx := fun _ H' => Q .non H', rt := Q } (fun c d _ H' => E c d H') := by
    unfold runB endB at post
    cases eg : g (startE N.length ds) T with
    | nx ρ S1 => rw [eg] at post; exact fun σ H' F' m' _ h1 x1 => post .non H' F' m' h1 x1 .non
    | rt d S1 => rw [eg] at post; exact post
    | exc y ρ S1 => rw [eg] at post; exact fun cv dx σ H' F' m' _ h1 x1 r1 => post cv dx H' F' m' h1 x1 r1
    | bk ρ S1 => rw [eg] at post; exact post.elim
    | ct ρ S1 => rw [eg] at post; exact post.elim
    | bad => rw [eg] at post; exact post.elim
  have hq := rd (L2.start N vs) H (startE N.length ds) T F m _ (slots_start rep hvN) hst want
  refine wpAny_mono (ht.run [] s1 (L2.start N vs) H _ I hq) (fun fl s' hs => ?_) fun e s' hs => hs
  cases fl with
  | next => obtain ⟨σ', H', J, q⟩ := hs; exact ⟨V.non, H', J.os, J.bare, J.base, J.hok, rfl, q⟩
  | ret u => obtain ⟨v, σ', H', J, rvu, q⟩ := hs; exact ⟨v, H', J.os, J.bare, J.base, J.hok, rvu, q⟩
  | brk => obtain ⟨_, _, _, q⟩ := hs; exact q.elim
  | cont => obtain ⟨_, _, _, q⟩ := hs; exact q.elim
end
section
variable {X : Cx} {pos p : Pos} {e : Expr} {es : List Expr} {gs : Ev (List D)} {k j : Nat}
theorem run_q {f : Addr} {n : Nat} {den : List D → Sto → Res D} {W : WX} {pins : List (Addr × Obj)} {s : Shared} {σ : St} {H : Hp} {Q : VK} {us : List Value} {vs : List V} {F : Hp} {m : List Addr} {ds : List D} {S : Sto} (G : FnQ X.prog X.w X.K X.mg X.base k f n den) (ok : XQk X j) (hk : k ≤ j) (tk : Takes X W)
    (I : Inv X pins σ H s) (r : Vals vs us) (hn : vs.length = n) (hst : HSt X.K H S F m) (rep : RepL X.K F m ds vs) (post : Post (Rep X.K) X.mg X.K H F m (den ds S) Q (fun c d H' => W c d σ H')) : wpAny (model X.prog X.w) X.A (call (.ref f) us) (EP X pins σ Q) X.xe s := by
  refine wpAny_call (codeAny_mono (G.run X.A X.stack s H us vs Q (fun c d H' => W c d σ H') F m ds S (ok.room.mono hk) ok.grd I.env0 r hn hst rep post) fun z s' hz => ?_)
  cases z with
  | error u => exact air tk I hz
  | ok fl =>
    cases fl with
    | ret u => exact I.after hz
    | next => exact hz.elim
    | brk => exact hz.elim
    | cont => exact hz.elim
/-- f(e, ..) where an exception may be handled -/
theorem de_callQ {f : Addr} {x : Str} {den : List D → Sto → Res D} {n : Nat} (G : FnQ X.prog X.w X.K X.mg X.base k f n den) (ok : XQk X j) (hk : k ≤ j) (hg : Gl X x) (hm : X.mg x = some (.ref f)) (kp : PySem.W.keepIn X.K (.ref f) = true) (ha : DA X (e :: es) gs) (hn : ∀ ρ S ds S', gs ρ S = .ok ds S' → ds.length = n)
    (hdb : (x == ("__debug__" : Str)) = false := by decide) (he : starEach (e :: es) X.env = (false, eval e X.env) :: starEach es X.env := by rfl) (hpl : (backTo pos (starEach es X.env)).any (·.1) = false := by rfl) :
    DE X (.Call (.Name x p) (e :: es) [] pos) (dCall den gs) := by
  refine ⟨fun W tk => ?_⟩
  obtain ⟨ta, pa, ra⟩ := ha.ex W tk
  refine ⟨tCG X W n den ta, ⟨fun pins s σ H Q I h => ?_⟩, fun σ H ρ S F m Q sl h q => ?_⟩
  · refine wpAny_Call_Name_kw (ld_glob I hg hm ?_ hdb)
    refine PySem.W.callWith_K (h₀ := X.base) I.ok.mod.kin kp (thn (pa.run pos pins s σ H _ I h) fun us s1 ⟨vs, H1, I1, r, hl, F, m, ds, S, hst, rep, q⟩ => ⟨I1.kIn, ?_⟩) he hpl
    exact run_q G ok hk tk I1 r hl hst rep q
  · cases eg : gs ρ S with
    | ok ds S1 =>
      have hl := hn _ _ _ _ eg
      refine ra σ H ρ S F m _ sl h ?_
      unfold dCall at q
      rw [eg] at q ⊢
      exact fun vs H1 F1 m1 h1 x1 r1 => ⟨by rw [← r1.length]; exact hl, F1, m1, ds, S1, h1, r1, Post.later x1 q⟩
    | exc y S1 => exact ra σ H ρ S F m _ sl h (by unfold dCall at q; rw [eg] at q ⊢; exact q)
    | bad => unfold dCall at q; rw [eg] at q; exact q.elim
end
/-! ### catching -/
theorem exV_ok {P : Program} {w : World} {H : Hp} {h : Heap} {a : Addr} {cls : Value} {d : Option Addr} {oe : Obj} {vs : Array Value} (e : h.get? a = some oe) (z : Zc cls d oe) (q : oe.data = .fields vs) : ObjOk P w H h a (ExV cls d a) :=
  ⟨⟨oe, vs, e, z, q⟩, ⟨oe, e⟩, fun _ _ ⟨o, v, q, r⟩ k => ⟨o, v, k o q, r⟩⟩
section
variable {X : Cx} {pins : List (Addr × Obj)} {σ : L2.St} {H : Hp} {s sI s' : Shared} {B : Heap} {a : Addr} {o : HO}
/-- the caught exception is tracked from here on -/
theorem landX (I : Inv X pins σ H sI) (nb : ∀ b o, sI.heap.get? b = some o → b ∉ frs X.stack → B.get? b = some o) (st : B.StaysIn s'.heap) (up : sI.heap.UpToSlots s'.heap) (os : s'.os = sI.os) (ag : AllBare s'.gens) (na : H a = none) (nI : sI.heap.get? a = none)
    (new : ObjOk X.prog X.w (upd H a o) s'.heap a o) : Inv X pins σ (upd H a o) s' := by
  have ne : ∀ {b : Addr} {u : Obj}, sI.heap.get? b = some u → b ≠ a := fun {b u} q z => by rw [z, nI] at q; cases q
  have fr : ∀ b ∈ frs X.stack, ∀ u, sI.heap.get? b = some u → ∃ sl, s'.heap.get? b = some { u with slots := sl } := fun b hb u q => by
    obtain ⟨_, u2, q2, hd⟩ := I.stack.mem hb
    rw [q] at q2; cases q2
    exact up b u q hd
  have un : Un (frs X.stack) [] H (upd H a o) sI.heap s'.heap := {
    keep := fun b u q _ hb _ => st b u (nb b u q hb)
    slot := fun b u q _ hb _ => fr b hb u q
    free := fun b u q n _ => by rw [upd_ne (ne q)]; exact n
    there := fun b u q _ => by
      by_cases hb : b ∈ frs X.stack
      · obtain ⟨sl, z⟩ := fr b hb u q
        exact ⟨_, z⟩
      · exact ⟨u, st b u (nb b u q hb)⟩
    tups := fun b xs q => by rw [upd_ne (ne_of_none q na)]; exact q
    frzs := fun b u xs q => by rw [upd_ne (ne_of_none q na)]; exact q
    tbls := fun b ps q => ⟨#[], by rw [upd_ne (ne_of_none q na), q]; simp⟩ }
  exact I.call' (ch := []) os un (((I.inGround nb).kept st).laidN (fun _ _ z => z) na new) ag (fun b z => nomatch z)
theorem _root_.L2.Inv.hot (I : Inv X pins σ H s) : Inv (X.suite a (X.pn ++ pins)) [] σ H s :=
  ⟨I.ok.suite _ _, I.os, I.bare, I.base, I.loc, I.cell, I.free, I.freeC, fun p hp => I.pin p (by rw [List.append_nil] at hp; exact hp), I.hok, I.len⟩
theorem _root_.L2.Inv.cold {pn' : List (Addr × Obj)} (I : Inv (X.suite a (X.pn ++ pins)) pn' σ H s) (ok : X.Ok) : Inv X pins σ H s :=
  ⟨ok, I.os, I.bare, I.base, I.loc, I.cell, I.free, I.freeC, fun p hp => I.pin p (List.mem_append_left _ hp), I.hok, I.len⟩
end
/-- what an except clause asks: which classes are meant -/
def XTest (X : Cx) (e : Expr) (tab : Addr → Option Bool) : Prop :=
  ∀ (a C : Addr) (b : Bool) (Q : Bool → Shared → Prop) (E : Value → Shared → Prop) (pins : List (Addr × Obj)) (σ : L2.St) (H : Hp) (s : Shared), Inv X pins σ H s → PySem.W.Looks (model X.prog X.w) s.heap (typeOf (.ref a)) (.ref C) → tab C = some b →
    (∀ h', (∀ b o, s.heap.get? b = some o → h'.get? b = some o) → Q b { s with heap := h' }) → wpAny (model X.prog X.w) (X.A.mark (some (.ref a))) (eval e X.env) (fun c s1 => wpAny (model X.prog X.w) (X.A.mark (some (.ref a))) (excMatches (.ref a) c) Q E s1) E s
theorem look_in {β : Type} {tab : List (Addr × β)} {C : Addr} {b : β} (h : tab.lookup C = some b) : (C, b) ∈ tab := by
  induction tab with
  | nil => cases h
  | cons p l ih =>
    obtain ⟨g, z⟩ := p
    rw [List.lookup_cons] at h
    by_cases e : (C == g) = true
    · rw [e] at h
      cases h
      rw [beq_iff_eq.mp e]
      exact List.mem_cons_self ..
    · rw [show (C == g) = false by simpa using e] at h
      exact List.mem_cons_of_mem _ (ih h)
/-- a class by its name -/
structure XNm (X : Cx) (x : Str) (c : Value) : Prop where
  nm : Names X x c
theorem xnm_own {X : Cx} {x : Str} {C : Addr} (hg : Gl X x) (hm : X.mg x = some (.ref C)) (hd : (x == ("__debug__" : Str)) = false := by decide) : Names X x (.ref C) := ⟨hg, hd, .inl hm⟩
section
variable {X : Cx} {x x1 x2 x3 : Str} {c c1 c2 c3 : Value} {np p1 p2 p3 tpos : Pos} {kk : Nat} {tab : List (Addr × Bool)}
theorem evN {a : Addr} {pins : List (Addr × Obj)} {σ : L2.St} {H : Hp} {s : Shared} {Q : Value → Shared → Prop} {E : Value → Shared → Prop} (hc : Names X x c) (I : Inv X pins σ H s) (q : Q c s) : wpAny (model X.prog X.w) (X.A.mark (some (.ref a))) (eval (.Name x np) X.env) Q E s := by
  obtain ⟨hg, hdbg, hm | ⟨hm, hv, hnn⟩⟩ := hc
  · exact ld_glob (X := X.suite a (X.pn ++ pins)) I.hot hg hm q hdbg
  · exact ld_blt (X := X.suite a (X.pn ++ pins)) I.hot hg hm hv q hnn hdbg
theorem xt_name (hc : Names X x c) (h : ∀ p ∈ tab, PySem.W.exmOne X.K (.ref p.1) c = some p.2) : XTest X (.Name x np) (fun C => tab.lookup C) := by
  intro a C b Q E pins σ H s I LT e q
  exact evN hc I ((PySem.W.exm_one I.kIn LT (h _ (look_in e))).here (q s.heap fun _ _ z => z))
theorem xt_tup2 (h1 : Names X x1 c1) (h2 : Names X x2 c2) (h : ∀ p ∈ tab, PySem.W.exmAny X.K (.ref p.1) [c1, c2] = some p.2) : XTest X (.Tuple [.Name x1 p1, .Name x2 p2] kk tpos) (fun C => tab.lookup C) := by
  intro a C b Q E pins σ H s I LT e q
  refine wpAny_Tuple (wpAny_items_cons (evN h1 I (wpAny_items_cons (evN h2 I (wpAny_items_nil ⟨by size_fits, ?_⟩)))))
  have kp : ∀ q o, s.heap.get? q = some o → (s.heap.push { cls := .type "tuple", data := .seq [c1, c2].toArray }).get? q = some o := fun _ _ z => Heap.get?_push_of_some _ z
  exact (PySem.W.exm_tup2 (I.kIn.keeps kp) (LT.keeps kp) (Heap.get?_push_size s.heap rfl) (h _ (look_in e))).here (q _ kp)
theorem xt_tup3 (h1 : Names X x1 c1) (h2 : Names X x2 c2) (h3 : Names X x3 c3) (h : ∀ p ∈ tab, PySem.W.exmAny X.K (.ref p.1) [c1, c2, c3] = some p.2) : XTest X (.Tuple [.Name x1 p1, .Name x2 p2, .Name x3 p3] kk tpos) (fun C => tab.lookup C) := by
  intro a C b Q E pins σ H s I LT e q
  refine wpAny_Tuple (wpAny_items_cons (evN h1 I (wpAny_items_cons (evN h2 I (wpAny_items_cons (evN h3 I (wpAny_items_nil ⟨by size_fits, ?_⟩)))))))
  have kp : ∀ q o, s.heap.get? q = some o → (s.heap.push { cls := .type "tuple", data := .seq [c1, c2, c3].toArray }).get? q = some o := fun _ _ z => Heap.get?_push_of_some _ z
  exact (PySem.W.exm_tup3 (I.kIn.keeps kp) (LT.keeps kp) (Heap.get?_push_size s.heap rfl) (h _ (look_in e))).here (q _ kp)
end
abbrev Hd := (Addr → Option Bool) × Option Nat × St'
abbrev goneE (i : Option Nat) (ρ : DEnv) : DEnv := match i with
  | some i => ρ.set i none
  | none => ρ
abbrev setE (i : Option Nat) (d : D) (ρ : DEnv) : DEnv := match i with
  | some i => ρ.set i (some d)
  | none => ρ
def goneS (i : Option Nat) : SR → SR
  | .nx ρ S => .nx (goneE i ρ) S
  | .rt d S => .rt d S
  | .bk ρ S => .bk (goneE i ρ) S
  | .ct ρ S => .ct (goneE i ρ) S
  | _ => .bad
def dHs : List Hd → XV → DEnv → Sto → SR
  | [], x, ρ, S => .exc x ρ S
  | (tab, i, g) :: r, x, ρ, S => match tab x.C with
    | some true => goneS i (g (setE i (.xc x.C x.f x.xs) ρ) S)
    | some false => dHs r x ρ S
    | none => .bad
def dTry (g : St') (hs : List Hd) : St' := fun ρ S => match g ρ S with
  | .exc x ρ' S' => dHs hs x ρ' S'
  | r => r
inductive DHd (X : Cx) (k : Nat) : List ExceptHandler → List Hd → Prop
  | nil : DHd X k [] []
  | as {e : Expr} {n : Str} {i : Nat} {tab : Addr → Option Bool} {b₀ : Stmt} {suite : List Stmt} {g : St'} {pos : Pos} {hds : List ExceptHandler} {l : List Hd} (ht : XTest X e tab) (hi : X.N[i]? = some n) (hl : X.env.kindOf n = some .local)
      (hsu : ∀ (a : Addr) (pn : List (Addr × Obj)), XQk (X.suite a pn) k → DSs (X.suite a pn) (b₀ :: suite) g) (r : DHd X k hds l) : DHd X k (.ExceptHandler (some e) (some n) (b₀ :: suite) pos :: hds) ((tab, some i, g) :: l)
  | no {e : Expr} {tab : Addr → Option Bool} {b₀ : Stmt} {suite : List Stmt} {g : St'} {pos : Pos} {hds : List ExceptHandler} {l : List Hd} (ht : XTest X e tab)
      (hsu : ∀ (a : Addr) (pn : List (Addr × Obj)), XQk (X.suite a pn) k → DSs (X.suite a pn) (b₀ :: suite) g) (r : DHd X k hds l) : DHd X k (.ExceptHandler (some e) none (b₀ :: suite) pos :: hds) ((tab, none, g) :: l)
theorem heldX {base h h' : Heap} {l : List PySem.Env} {e : Addr} {Z : Obj → Prop} (x : HandSPX.FlyingZ base l e Z h) (k : ∀ b o, h.get? b = some o → h'.get? b = some o) : HandSPX.FlyingZ base l e Z h' := by
  obtain ⟨k1, k2, k3, oe, vs, T, oT, ts, he, hz, hd, h1, hn, ht, hT, hdT, h3⟩ := x
  exact ⟨fun b o q => k b o (k1 b o q), k2, k3.of_keeps fun b o q _ => ⟨o, k b o q, rfl⟩, oe, vs, T, oT, ts, k _ _ he, hz, hd, h1, hn, ht, k _ _ hT, hdT, h3⟩
def wTry (X : Cx) (l : List Hd) (N : Ends) (W : WX) : WX := fun cls d σ H => ∃ x ρ S F m, Slots X.K F m ρ σ ∧ HSt X.K H S F m ∧ RepX X.K F m x cls d ∧ SPost X.mg X.K H F m (dHs l x ρ S) N W


theorem slots_gone {K : PySem.W.Frag} {F : Hp} {m : List Addr} {ρ : DEnv} {σ : L2.St} (s : Slots K F m ρ σ) (i : Nat) : Slots K F m (ρ.set i Option.none) (σ.set i Option.none) := Slots.none s i Option.none
section
variable {X : Cx} {k : Nat} {body : List Stmt} {h₀ : ExceptHandler} {hds : List ExceptHandler} {l : List Hd} {g : St'} {pos : Pos}
/-- a suite's reading: what it ends in is what follows, the clause's name let go -/
theorem suite_post {mg : Str → Option Value} {K : PySem.W.Frag} {H F : Hp} {m : List Addr} {r : SR} {N : Ends} {W : WX} {i : Option Nat} (p : SPost mg K H F m (goneS i r) N W) :
    SPost mg K H F m r { nx := fun σ H => N.nx (match i with | some i => σ.set i none | none => σ) H, rt := N.rt, bk := fun σ H => N.bk (match i with | some i => σ.set i none | none => σ) H, ct := fun σ H => N.ct (match i with | some i => σ.set i none | none => σ) H } (fun _ _ _ _ => False) := by
  cases r with
  | nx ρ S => cases i with
    | none => exact p
    | some i => exact fun σ H' F' m' s h x => p _ H' F' m' (slots_gone s i) h x
  | bk ρ S => cases i with
    | none => exact p
    | some i => exact fun σ H' F' m' s h x => p _ H' F' m' (slots_gone s i) h x
  | ct ρ S => cases i with
    | none => exact p
    | some i => exact fun σ H' F' m' s h x => p _ H' F' m' (slots_gone s i) h x
  | rt d S => exact p
  | exc x ρ S => exact p.elim
  | bad => exact p.elim
theorem rep_xc {K : PySem.W.Frag} {F : Hp} {m : List Addr} {x : XV} {cls : Value} {d : Option Addr} {a : Addr} (r : RepX K F m x cls d) (n : F a = none) : Rep K (upd F a (ExV cls d a)) m (.xc x.C x.f x.xs) (.ref a) := by
  have le : Le F (upd F a (ExV cls d a)) m m := ⟨fun b u q => by rw [upd_ne (ne_of_none q n)]; exact q, fun _ _ q => q⟩
  obtain ⟨C, f, xs⟩ := x
  obtain ⟨e, r⟩ := r
  have e : cls = .ref C := e
  subst e
  rcases r with ⟨e1, e2⟩ | ⟨dd, v, y, e1, e2, e3, r⟩
  · have e1 : xs = [] := e1
    subst e1 e2
    exact .xc0 upd_same
  · have e1 : xs = [y] := e1
    subst e1 e2
    exact .xc1 upd_same (le.f _ _ e3) (r.le le)
theorem ds_try (hs : X.stack = X.env :: X.outer) (hf : X.env.frame = some X.env.locals) (ok : XOk X k) (hb : ∀ (pn : List (Addr × Obj)) (xe : Value → Shared → Prop), XOk (X.tr pn xe) k → DSs (X.tr pn xe) body g) (hh : DHd X k (h₀ :: hds) l) :
    DS X (.Try body (h₀ :: hds) [] [] pos) (dTry g l) := by
  refine ⟨fun W tk => ⟨fun N σ H => ∃ ρ S F m, Slots X.K F m ρ σ ∧ HSt X.K H S F m ∧ SPost X.mg X.K H F m (dTry g l ρ S) N W, ⟨fun pins s σ H D I h => ?_⟩, fun σ H ρ S F m N sl h p => ⟨ρ, S, F, m, sl, h, p⟩⟩⟩
  obtain ⟨ρ, S, F, m, sl, hst, post⟩ := h
  have cok := I.ok
  have hfr : X.A.frames = some (X.env :: X.outer) := by rw [cok.frames, hs]
  refine wpAny_Try_except ?_
  have tk2 : Takes (X.tr (X.pn ++ pins) fun e s₁ => wpAny (model X.prog X.w) X.A (noteFrame e X.env) (fun _ s₂ => wpAny (model X.prog X.w) X.A (setFlight e none) (fun _ s₃ =>
      wpAny (model X.prog X.w) X.A (handleBy e X.env (h₀ :: hds)) (SP X pins D) X.xe s₃) X.xe s₂) X.xe s₁) (wTry X l D W) := by
    intro u s' xx
    obtain ⟨a, B, sI, pins', σ', H', cls, d, rfl, J', nb, up, sky, na, os, ag, x, ρ', S', F', m', sl', hst', rx, post'⟩ := xx
    have J : Inv X pins σ' H' sI := J'.ofTry cok
    have hcl : cls = .ref x.C := rx.1
    have sky2 : Sky B (X.env :: X.outer) a (Zc cls d) X.env.locals s'.heap := by rw [← hs]; exact sky
    show wpAny (model X.prog X.w) X.A (noteFrame (.ref a) X.env) _ _ _
    refine Sky.land Zc.steady hfr hf sky2 fun h3 fl3 up3 => ?_
    have nofr : ∀ {h : Heap} {o : Obj} {vs : Array Value}, h.FunFrames B (X.env :: X.outer) → h.get? a = some o → o.data = .fields vs → a ∉ frs (X.env :: X.outer) := fun {h o vs} ff q dd hm => by
      obtain ⟨_, o2, q2, hnf⟩ := ff.mem hm
      rw [q] at q2; cases q2
      exact hnf _ dd
    have nI : sI.heap.get? a = none := by
      obtain ⟨oe, vs, he, hz, hd⟩ := fl3.there
      have nfr := nofr fl3.2.2.1 he hd
      cases q : sI.heap.get? a with
      | none => rfl
      | some o =>
        have z := nb a o q (by rw [hs]; exact nfr)
        rw [fl3.2.1] at z; cases z
    have nF' : F' a = none := by
      cases q : F' a with
      | none => rfl
      | some u => rw [hst'.fz _ _ q] at na; cases na
    have go : ∀ {hds' : List ExceptHandler} {l' : List Hd}, DHd X k hds' l' → ∀ h5, HandSPX.FlyingZ B (X.env :: X.outer) a (Zc cls d) h5 → s'.heap.UpToSlots h5 → SPost X.mg X.K H' F' m' (dHs l' x ρ' S') D W →
        wpAny (model X.prog X.w) X.A (handleBy (.ref a) X.env hds') (SP X pins D) X.xe { s' with heap := h5 } := by
      intro hds' l' hk
      induction hk with
      | nil =>
        intro h5 fl5 up5 p
        refine wpAny_handleBy_nil ?_
        obtain ⟨k1, k2, k3, oe, vs, T, oT, ts', he, hz, hd, h1, hr⟩ := id fl5
        unfold PySem.passOn
        refine wpAny_bind (wpAny_field he hd h1 ?_)
        rw [if_neg (show ¬ ((Value.ref T == Value.none) = true) from by simp)]
        have fin : wpAny (model X.prog X.w) X.A (setFlight (.ref a) X.env.frame) (fun _ s6 => wpAny (model X.prog X.w) X.A (throw (.ref a) : Sem Flow) (SP X pins D) X.xe s6) X.xe { s' with heap := h5 } := by
          rw [hf]
          refine HandSPX.setFlight_upZ fl5 fun h6 hh6 up6 => wpAny_throw (tk _ _ ?_)
          exact ⟨a, B, sI, pins, σ', H', cls, d, rfl, J, nb, (up.trans up5).trans up6, .inr (.inr (by rw [hs]; exact hh6)), na, os, ag, p cls d σ' H' F' m' sl' hst' (Ext.refl _ _ _) rx⟩
        first
          | exact wpAny_bind (wpAny_pure (wpAny_bind fin))
          | exact wpAny_bind fin
      | @as e n i tab b₀ suite gg pos' hds2 l2 ht hi hl hsu r ih =>
        intro h5 fl5 up5 p
        have J5 : Inv X pins σ' H' { s' with heap := h5 } := J.landed nb fl5.1 (up.trans up5) os ag
        obtain ⟨oe5, vs5, he5, hz5, hd5⟩ := fl5.there
        have LT : PySem.W.Looks (model X.prog X.w) h5 (typeOf (.ref a)) (.ref x.C) := fun A Q E s kk q => wpAny_typeOf_ref (kk _ _ he5) (by rw [hz5.1, hcl]; exact q)
        refine wpAny_handleBy_cons (codeAny_handlers_test ?_) (by intro q; cases q)
        cases et : tab x.C with
        | none => unfold dHs at p; rw [et] at p; exact p.elim
        | some b =>
          refine ht a x.C b _ _ pins σ' H' _ J5 LT et fun h6 k6 => ?_
          have fl6 := heldX fl5 k6
          have up6 := up5.trans (Heap.UpToSlots.of_keeps k6)
          unfold dHs at p
          rw [et] at p
          cases b with
          | false => exact ih h6 fl6 up6 p
          | true =>
            refine codeAny_handlers_suite_as ?_
            refine HandSPX.lands_againZ fl6 fun h7 fl7 up7 => ?_
            obtain ⟨oe7, vs7, he7, hz7, hd7⟩ := fl7.there
            have J7 : Inv X pins σ' (upd H' a (ExV cls d a)) { s' with heap := h7 } := landX J nb fl7.1 ((up.trans up6).trans up7) os ag na nI (exV_ok he7 hz7 hd7)
            refine store_ok (X := X.suite a (X.pn ++ pins)) (v := .ref a) J7.hot ok.nd hi (.inl hl) rfl (fun s8 S8 => ?_) (.inr hl)
            have okS : XQk (X.suite a (X.pn ++ pins)) k := ⟨⟨ok.room.dp, ok.room.un⟩, ok.grd, PassesOwn.never, ok.nd⟩
            obtain ⟨t8, pt8, rt8⟩ := (hsu a (X.pn ++ pins) okS).ex (fun _ _ _ _ => False) takes0
            have hst8 : HSt X.K (upd H' a (ExV cls d a)) S' (upd F' a (ExV cls d a)) m' := hst'.froz na _
            have q8 := rt8 (σ'.set i (some (.ref a))) _ _ S' _ m' _ ((sl'.le (hst'.frozE na _).le).set i (rep_xc rx nF')) hst8 (suite_post (i := some i) (SPost.later (hst'.frozE na _) p))
            refine wpAny_mono (pt8.run [] s8 _ _ _ S8 q8) (fun f s9 hsp => ?_) (fun _ _ z => False.elim z)
            have end_ : ∀ {σ9 : L2.St} {H9 : Hp} {Q : Shared → Prop}, Inv (X.suite a (X.pn ++ pins)) [] σ9 H9 s9 → (∀ s10, Inv X pins (σ9.set i none) H9 s10 → Q s10) →
                wpAny (model X.prog X.w) X.A (do bindName X.env n .none; unbindBehindTheSuite X.env n pos') (fun _ s10 => Q s10) X.xe s9 := fun {σ9 H9 Q} S9 hq => gone_ok (S9.cold cok) ok.nd hi hl hq
            cases f with
            | next => obtain ⟨σ9, H9, S9, q9⟩ := hsp; exact end_ S9 fun s10 J10 => ⟨_, _, J10, q9⟩
            | brk => obtain ⟨σ9, H9, S9, q9⟩ := hsp; exact end_ S9 fun s10 J10 => ⟨_, _, J10, q9⟩
            | cont => obtain ⟨σ9, H9, S9, q9⟩ := hsp; exact end_ S9 fun s10 J10 => ⟨_, _, J10, q9⟩
            | ret u => obtain ⟨v9, σ9, H9, S9, r9, q9⟩ := hsp; exact end_ S9 fun s10 J10 => ⟨_, _, _, J10, r9, q9⟩
      | @no e tab b₀ suite gg pos' hds2 l2 ht hsu r ih =>
        intro h5 fl5 up5 p
        have J5 : Inv X pins σ' H' { s' with heap := h5 } := J.landed nb fl5.1 (up.trans up5) os ag
        obtain ⟨oe5, vs5, he5, hz5, hd5⟩ := fl5.there
        have LT : PySem.W.Looks (model X.prog X.w) h5 (typeOf (.ref a)) (.ref x.C) := fun A Q E s kk q => wpAny_typeOf_ref (kk _ _ he5) (by rw [hz5.1, hcl]; exact q)
        refine wpAny_handleBy_cons (codeAny_handlers_test ?_) (by intro q; cases q)
        cases et : tab x.C with
        | none => unfold dHs at p; rw [et] at p; exact p.elim
        | some b =>
          refine ht a x.C b _ _ pins σ' H' _ J5 LT et fun h6 k6 => ?_
          have fl6 := heldX fl5 k6
          have up6 := up5.trans (Heap.UpToSlots.of_keeps k6)
          unfold dHs at p
          rw [et] at p
          cases b with
          | false => exact ih h6 fl6 up6 p
          | true =>
            refine codeAny_handlers_suite ?_
            refine HandSPX.lands_againZ fl6 fun h7 fl7 up7 => ?_
            obtain ⟨oe7, vs7, he7, hz7, hd7⟩ := fl7.there
            have J7 : Inv X pins σ' (upd H' a (ExV cls d a)) { s' with heap := h7 } := landX J nb fl7.1 ((up.trans up6).trans up7) os ag na nI (exV_ok he7 hz7 hd7)
            have okS : XQk (X.suite a (X.pn ++ pins)) k := ⟨⟨ok.room.dp, ok.room.un⟩, ok.grd, PassesOwn.never, ok.nd⟩
            obtain ⟨t8, pt8, rt8⟩ := (hsu a (X.pn ++ pins) okS).ex (fun _ _ _ _ => False) takes0
            have hst8 : HSt X.K (upd H' a (ExV cls d a)) S' (upd F' a (ExV cls d a)) m' := hst'.froz na _
            have q8 := rt8 σ' _ ρ' S' _ m' _ (sl'.le (hst'.frozE na _).le) hst8 (suite_post (i := none) (SPost.later (hst'.frozE na _) p))
            refine wpAny_mono (pt8.run [] _ _ _ _ J7.hot q8) (fun f s9 hsp => ?_) (fun _ _ z => False.elim z)
            cases f with
            | next => obtain ⟨σ9, H9, S9, q9⟩ := hsp; exact ⟨_, _, S9.cold cok, q9⟩
            | brk => obtain ⟨σ9, H9, S9, q9⟩ := hsp; exact ⟨_, _, S9.cold cok, q9⟩
            | cont => obtain ⟨σ9, H9, S9, q9⟩ := hsp; exact ⟨_, _, S9.cold cok, q9⟩
            | ret u => obtain ⟨v9, σ9, H9, S9, r9, q9⟩ := hsp; exact ⟨_, _, _, S9.cold cok, r9, q9⟩
    exact go hh h3 fl3 up3 post'
  obtain ⟨t, pt, rt⟩ := (hb (X.pn ++ pins) _ ⟨ok.room, ok.grd, ok.calm, PassesOwn.looking, ok.nd⟩).ex _ tk2
  have q := rt σ H ρ S F m D sl hst (by
    unfold dTry at post
    cases eg : g ρ S with
    | nx ρ1 S1 => rw [eg] at post; exact post
    | bk ρ1 S1 => rw [eg] at post; exact post
    | ct ρ1 S1 => rw [eg] at post; exact post
    | rt d1 S1 => rw [eg] at post; exact post
    | exc x ρ1 S1 =>
      rw [eg] at post
      exact fun cv dx σ1 H1 F1 m1 sl1 h1 x1 r1 => ⟨x, ρ1, S1, F1, m1, sl1, h1, r1, SPost.later x1 post⟩
    | bad => rw [eg] at post; exact post)
  refine wpAny_mono (pt.run [] s σ H D (I.toTry _) q) (fun f s1 hsp => ?_) (fun e s1 he => he)
  cases f with
  | next => obtain ⟨σ9, H9, S9, q9⟩ := hsp; exact wpAny_execs_nil ⟨σ9, H9, S9.ofTry cok, q9⟩
  | brk => obtain ⟨σ9, H9, S9, q9⟩ := hsp; exact ⟨σ9, H9, S9.ofTry cok, q9⟩
  | cont => obtain ⟨σ9, H9, S9, q9⟩ := hsp; exact ⟨σ9, H9, S9.ofTry cok, q9⟩
  | ret u => obtain ⟨v9, σ9, H9, S9, r9, q9⟩ := hsp; exact ⟨v9, σ9, H9, S9.ofTry cok, r9, q9⟩
end
end DL

/-! DL: exceptions of own classes: raised, read, asked for their class. -/
namespace DL
open PySem PySem.Spec PyProof.Rows L2
variable {EX : XP} {ES : XPs}
/-! ### raise C(e), C with an own __init__ that keeps its one value -/
def spIni (C : Addr) (f : Str) : Sp := fun vs H Q _ => ∃ a v, vs = [.ref a, v] ∧ H a = some (exo a C Option.none) ∧ ∀ dx, H dx = Option.none → dx ≠ a → Q .non (upd (upd H dx (exd dx [(f, v)])) a (exo a C (some dx)))
/-- what the text says of such a class -/
structure XCl (P : Program) (w : World) (K : PySem.W.Frag) (mg : Str → Option Value) (base : Heap) (C fI : Addr) (f : Str) : Prop where
  oc : OexC K C
  ic : PySem.W.findIn K (.ref C) "__init__" = some (some (.ref fI))
  ti : PySem.W.typeIn K (.ref fI) = some (.type "function")
  bd : ∃ fd ps, Binds K fd ps [] ∧ FnOk P w K mg base (L2.CX P w) 1 fI fd ps (spIni C f)
theorem ini_ok {P : Program} {w : World} {K : PySem.W.Frag} {mg : Str → Option Value} {base : Heap} {x qual f : Str} {st : Stmt} {fI C : Addr} {fd : FuncData} {p1 p2 p3 p4 : Pos} (Fn : Fun K x qual st fI fd) (S : FnScope ["self", f] ["self", f] (defScope st)) (oc : OexC K C) (hno : PySem.W.findIn K (.ref C) f = some Option.none)
    (hb : defBody st = [.Assign [.Attribute (.Name "self" p1) f p2] (.Name f p3) p4])
    (hp : ∀ (cdv : Value) (A : Around) (outer : List PySem.Env) (s : Shared) (H : Hp) (E : XK), PS (cxOf (L2.CX P w) P w K mg base ["self", f] qual (defScope st) fI cdv A outer s H E) (.Assign [.Attribute (.Name "self" p1) f p2] (.Name f p3) p4) (tOst K f (tVar 0) (tVar 1))) :
    FnOk P w K mg base (L2.CX P w) 1 fI fd ["self", f] (spIni C f) := by
  refine Fn.okX S (fun vs H Q E h => ?_) fun cdv A outer s H vs Q E hr h => ⟨_, by rw [hb]; exact pss_cons (hp cdv A outer s H E) pss_nil, ?_⟩
  · obtain ⟨a, v, rfl, _⟩ := h; rfl
  · obtain ⟨a, v, rfl, ha, q⟩ := h
    exact ⟨v, rfl, .ref a, rfl, a, C, rfl, oc, hno, .inl ⟨ha, q⟩⟩
section
variable {X : Cx} {x f : Str} {p pos pos' apos : Pos} {e : Expr} {es : List Expr} {gs : Ev (List D)} {go : Ev D} {C fI : Addr} {k : Nat}
def dRaise (C : Addr) (f : Str) (gs : Ev (List D)) : St' := fun ρ S => (gs ρ S).bindS ρ fun ds S1 => match ds with
  | [d] => .exc ⟨C, f, [d]⟩ ρ S1
  | _ => .bad
theorem cxF {P : Program} {w : World} {outer : List PySem.Env} {H : Hp} {s s' : Shared} {u : Value} (h : L2.CX P w outer H s (fun _ _ _ => False) u s') : False := by
  obtain ⟨_, _, _, _, _, _, _, _, _, _, _, _, z⟩ := h
  exact z
theorem ds_raise (T : XCl X.prog X.w X.K X.mg X.base C fI f) (ok : XOk X k) (hk : 2 ≤ k) (hg : Gl X x) (hm : X.mg x = some (.ref C)) (ha : DA X (e :: es) gs)
    (hdb : (x == ("__debug__" : Str)) = false := by decide) (he : starEach (e :: es) X.env = (false, eval e X.env) :: starEach es X.env := by rfl) (hpl : (backTo pos (starEach es X.env)).any (·.1) = false := by rfl) :
    DS X (.Raise (some (.Call (.Name x p) (e :: es) [] pos)) Option.none pos') (dRaise C f gs) := by
  refine ⟨fun W tk => ?_⟩
  obtain ⟨ta, pa, ra⟩ := ha.ex W tk
  obtain ⟨fd, ps, hb, F1⟩ := T.bd
  have hr : Room 2 X.A := ok.room.mono hk
  refine ⟨_, ps_raise ok.calm tk (pmk_oex (ds := []) (dvs := []) T.oc T.ic T.ti F1 hr hb .nil (fun _ _ _ _ _ _ _ h => (cxF h).elim) hg hm pa hdb he hpl), fun σ H ρ S F m N sl h q => ?_⟩
  refine ra σ H ρ S F m _ sl h (Post.bindS sl q fun ds S1 vs H1 F1 m1 h1 x1 r1 p1 => ?_)
  match ds, r1, p1 with
  | [d], .cons (v := v) rv .nil, p1 =>
    refine ⟨(show 1 ≤ 1000 by decide), fun a na => ?_⟩
    refine ⟨a, v, rfl, upd_same, fun dx nd ne => ⟨rfl, dx, [(f, v)], upd_same, ?_, ?_, ?_⟩⟩
    · rw [upd_ne ne, upd_same]
    · rw [upd_ne ne] at nd; exact nd
    · rw [upd_ne ne] at nd
      have eH : upd (del (upd (upd (upd H1 a (exo a C Option.none)) dx (exd dx [(f, v)])) a (exo a C (some dx))) a) dx (.xd [(f, v)]) = upd H1 dx (.xd [(f, v)]) := by
        funext b
        by_cases h1 : b = dx
        · rw [h1, upd_same, upd_same]
        · rw [upd_ne h1, upd_ne h1]
          by_cases h2 : b = a
          · rw [h2, del_same, na]
          · rw [del_ne h2, upd_ne h2, upd_ne h1, upd_ne h2]
      rw [eH]
      exact p1 _ _ σ _ _ m1 ((sl.le x1.le).le (h1.frozE nd _).le) (h1.froz nd _) (h1.frozE nd _) ⟨rfl, .inr ⟨dx, v, d, rfl, rfl, upd_same, rv.le (h1.frozE nd _).le⟩⟩
/-! ### raise C(), C without an own __init__ -/
def dRaise0 (C : Addr) : St' := fun ρ S => .exc ⟨C, Str.empty, []⟩ ρ S
theorem pmk_own0 {bmB : List Value} {B newId initId : String} (F : ExcBaseFacts B newId initId bmB) (q : PySem.W.excIn X.K C bmB newId = true) (gC : X.mg x = some (.ref C)) (kC : PySem.W.keepIn X.K (.ref C) = true) (r : Raises X (.ref C)) (hg : Gl X x)
    (hdb : (x == ("__debug__" : Str)) = false := by decide) : PMk X (.Call (.Name x p) [] [] pos) (fun _ H Q => Q (.ref C) Option.none H) := by
  intro pins s σ H Q I h
  refine wpAny_Call_Name_kw (ld_glob I hg gC ?_ hdb)
  refine PySem.W.callWith_K0 (first := []) I.kIn kC ?_
  obtain ⟨bm, N, nm, qn, bs, hdct, sn, sub, ab, col, dd, k0, k1, k2, k3, k5, mN, hC, hN, hni, T⟩ := exc_obj I.kIn q
  exact wpAny_call_exc_subT F T hC hN hni (fun h' a mk => mk_of I mk r h (I.hok.gone mk.new)) (Nat.zero_le _)
theorem ds_raise0 {bmB : List Value} {B newId initId : String} (F : ExcBaseFacts B newId initId bmB) (q : PySem.W.excIn X.K C bmB newId = true) (ok : XOk X k) (gC : X.mg x = some (.ref C)) (kC : PySem.W.keepIn X.K (.ref C) = true)
    (bC : PySem.W.subIn X.K (.ref C) (.type "BaseException") = some true) (tC : PySem.W.typeIn X.K (.ref C) = some (.type "type")) (hg : Gl X x) (hdb : (x == ("__debug__" : Str)) = false := by decide) :
    DS X (.Raise (some (.Call (.Name x p) [] [] pos)) Option.none pos') (dRaise0 C) := by
  refine ⟨fun W tk => ⟨_, ps_raise ok.calm tk (pmk_own0 F q gC kC (raises_own bC tC) hg hdb), fun σ H ρ S F m N sl h q => ?_⟩⟩
  exact q _ _ σ H F m sl h (Ext.refl _ _ _) ⟨rfl, .inl ⟨rfl, rfl⟩⟩
/-! ### e.f, e a caught exception -/
def dXf (f : Str) (go : Ev D) : Ev D := fun ρ S => (go ρ S).bind fun x S1 => match x with
  | .xc _ g [d] => if g = f then .ok d S1 else .bad
  | _ => .bad
/-- the classes whose fields are read -/
def XfAll (K : PySem.W.Frag) (f : Str) (l : List Addr) : Prop := ∀ C ∈ l, XfC K C ∧ PySem.W.findIn K (.ref C) f = some Option.none
def dXfL (l : List Addr) (f : Str) (go : Ev D) : Ev D := fun ρ S => (go ρ S).bind fun x S1 => match x with
  | .xc C g [d] => if g = f ∧ C ∈ l then .ok d S1 else .bad
  | _ => .bad
def tXfV (K : PySem.W.Frag) (f : Str) (te : TE) : TE := fun σ H Q => te σ H fun x H1 => ∃ a C d fs v, x = .ref a ∧ H1 a = some (ExV (.ref C) (some d) a) ∧ H1 d = some (.xd fs) ∧ XfC K C ∧ PySem.W.findIn K (.ref C) f = some Option.none ∧ fs.lookup f = some v ∧ Q v H1
theorem pe_xfV {te : TE} (he : PE X e te) (hb : attributeBase e f X.env (eval e X.env) = eval e X.env := by rfl) : PE X (.Attribute e f pos) (tXfV X.K f te) := by
  refine ⟨fun pins s σ H Q I h => ?_⟩
  refine attr_of hb (thn (he.run pins s σ H _ I h) fun u s1 hh => ?_)
  obtain ⟨y, H1, I1, ry, a, C, d, fs, v, ey, ea, ed, T, hno, l, q⟩ := hh
  subst ey
  obtain rfl : u = Value.ref a := ry
  obtain ⟨⟨oe, vs, ha, hz, hd⟩, _, _⟩ := I1.hok a _ ea
  have hx : ObjOk X.prog X.w H1 s1.heap d (.xd fs) := I1.hok d _ ed
  obtain ⟨mA, hns, hr⟩ := hx
  obtain ⟨od, ho, hl⟩ := lookIn_ns hns
  obtain ⟨z, hu, ru⟩ := RelO.some_of (v := v) (o := mA f) (by rw [← l]; exact hr f)
  have J : PySem.W.InstAt s1.heap a oe C (some od) := ⟨ha, hz.1, by unfold PySem.W.notCls; rw [hd] <;> rfl, by rw [hz.2]; exact ho⟩
  exact HandSPX.exc_get I1.kIn J T.ga T.gg T.exC (PySem.W.findObj_own T.hdC hno rfl (by rw [hl, hu])) (handed_of ru) ⟨v, H1, I1.tok _, ru, q⟩
theorem de_xf {l : List Addr} (T : XfAll X.K f l) (ho : DE X e go) (hb : attributeBase e f X.env (eval e X.env) = eval e X.env := by rfl) : DE X (.Attribute e f pos) (dXfL l f go) := by
  refine ⟨fun W tk => ?_⟩
  obtain ⟨t, pt, rt⟩ := ho.ex W tk
  refine ⟨_, pe_xfV pt hb, fun σ H ρ S F m Q sl h q => ?_⟩
  refine rt σ H ρ S F m _ sl h (Post.bind q fun y S1 v H1 F1 m1 h1 x1 r1 p1 => ?_)
  cases r1 with
  | @xc1 a C d g y w f1 f2 r =>
    dsimp only at p1
    by_cases hc : g = f ∧ C ∈ l
    · rw [if_pos hc] at p1
      obtain ⟨rfl, hm⟩ := hc
      obtain ⟨T1, T2⟩ := T C hm
      exact ⟨a, C, d, _, w, rfl, h1.fz _ _ f1, h1.fz _ _ f2, T1, T2, by simp [List.lookup], p1 _ H1 F1 m1 h1 (Ext.refl _ _ _) r⟩
    · rw [if_neg hc] at p1; exact p1.elim
  | _ => exact p1.elim
/-! ### isinstance(e, T), isinstance(e, (T, ..)) -/
structure XIs (K : PySem.W.Frag) (C : Addr) : Prop where
  xf : XfC K C
  cl : (PySem.W.clsIn K C).isSome = true
  ca : PySem.W.findIn K (.ref C) "__class__" = some (some (.builtin "object.__class__"))
  cg : PySem.W.specialIn K (.builtin "object.__class__") "__get__" = some (some (.builtin "getset_descriptor.__get__"))
  ct : PySem.W.takesIn K (.builtin "object.__class__") = some true
  co : PySem.W.mroIn K C (.type "object") = some true
inductive CTag where
  | a (C : Addr) | t (n : String)
  deriving DecidableEq
def CTag.v : CTag → Value
  | .a C => .ref C
  | .t n => .type n
def CTag.d : CTag → D
  | .a C => .adr C
  | .t n => .ty n
/-- isinstance of a tracked exception -/
def rIsX (K : PySem.W.Frag) (tp : Bool) (cs : List CTag) (tab : List (Addr × Bool)) : List V → Hp → VK → Prop := fun xs H Q => ∃ (a C : Addr) (d : Option Addr) (b : Bool) (c : V), xs = [.ref a, c] ∧ H a = some (ExV (.ref C) d a) ∧ (∀ dd, d = some dd → ∃ fs, H dd = some (.xd fs)) ∧ tab.lookup C = some b ∧
  (if tp = true then ∃ q ws, c = .ref q ∧ SqT K H q ws ∧ Paired (fun (g : CTag) (w : V) => ∀ u, RelV w u → u = g.v) cs ws else ∃ g, cs = [g] ∧ ∀ u, RelV c u → u = g.v) ∧ Q (.bl b) H
theorem tags_v : ∀ {cs : List CTag} {ws : List V} {us : List Value}, Paired (fun (g : CTag) (w : V) => ∀ u, RelV w u → u = g.v) cs ws → Vals ws us → us = cs.map CTag.v
  | [], [], [], .nil, .nil => rfl
  | _ :: _, _ :: _, _ :: _, .cons h t, .cons r s => by rw [List.map_cons, ← h _ r, ← tags_v t s]
def IsOk (K : PySem.W.Frag) (tp : Bool) (cs : List CTag) (tab : List (Addr × Bool)) : Prop := ∀ p ∈ tab, XIs K p.1 ∧ (if tp = true then PySem.W.kitAny K (.ref p.1) (cs.map CTag.v) else PySem.W.kitOne K (.ref p.1) ((cs.map CTag.v).headD .none)) = some p.2
theorem call_reprQ {j : Nat} (ok : XQk X j) : CallR X (.builtin "repr") (rRepr X.K) := by
  intro pins s σ H xs us Q I r h
  obtain ⟨x, y, rfl, hd, nd, hs, hz, hdep, q⟩ := h
  obtain ⟨u, rfl, ru⟩ := vals1 r
  obtain ⟨as, rd⟩ := Dp.reads I y x u hd ru
  have hun : X.A.units + 64 < cLine := by have := ok.room.un; omega
  cases hd with
  | lst _ _ => cases ru; exact repr_of_reads' rd hs (PyData.noDict_hsm nd) ok.grd (by omega) (fun _ _ z => z) (fun h2 t tk hk => ⟨.str _, H, I.kept hk, ⟨_, rfl⟩, q⟩) hz
  | tup _ _ => cases ru; exact repr_of_reads' rd hs (PyData.noDict_hsm nd) ok.grd (by omega) (fun _ _ z => z) (fun h2 t tk hk => ⟨.str _, H, I.kept hk, ⟨_, rfl⟩, q⟩) hz
  | non =>
    cases ru
    exact PySem.P.repr_of_none ⟨.str _, H, I.tok _, ⟨_, rfl⟩, by simpa only [PyData.shown] using q⟩
  | bl z =>
    cases ru
    exact PySem.P.repr_of_bool ⟨.str _, H, I.tok _, ⟨_, rfl⟩, by simpa only [PyData.shown] using q⟩
  | int z =>
    obtain ⟨t, rfl⟩ := ru
    exact PySem.P.repr_of_int (by simpa [PyData.showable] using hs) ⟨.str _, H, I.tok _, ⟨_, rfl⟩, by simpa only [PyData.shown] using q⟩
  | str z =>
    obtain ⟨t, rfl⟩ := ru
    exact PySem.P.repr_of_str ⟨.str _, H, I.tok _, ⟨_, rfl⟩, by simpa only [PyData.shown] using q⟩ (by simpa only [PyData.shown] using hz)
theorem call_isX {tp : Bool} {cs : List CTag} {tab : List (Addr × Bool)} (T : IsOk X.K tp cs tab) : CallR X (.builtin "isinstance") (rIsX X.K tp cs tab) := by
  intro pins s σ H xs us Q I r h
  obtain ⟨a, C, d, b, c, rfl, ea, ed, el, hc, q⟩ := h
  obtain ⟨⟨oe, vs, ha, hz, hd⟩, _, _⟩ := I.hok a _ ea
  obtain ⟨T1, T2⟩ := T _ (look_in el)
  have J : ∃ od, PySem.W.InstAt s.heap a oe C od := by
    cases d with
    | none => exact ⟨none, ha, hz.1, by unfold PySem.W.notCls; rw [hd] <;> rfl, by rw [hz.2]; trivial⟩
    | some dd =>
      obtain ⟨fs, e1⟩ := ed dd rfl
      have hx : ObjOk X.prog X.w H s.heap dd (.xd fs) := I.hok dd _ e1
      obtain ⟨mA, hns, hr⟩ := hx
      obtain ⟨od, ho, hl⟩ := lookIn_ns hns
      exact ⟨some od, ha, hz.1, by unfold PySem.W.notCls; rw [hd] <;> rfl, by rw [hz.2]; exact ho⟩
  obtain ⟨od, J⟩ := J
  have Z := PySem.W.kitx_exc (K := X.K) (x := a) (C := C) (ox := oe) (od := od) T1.cl T1.xf.ga T1.xf.gg T1.xf.exC T1.ca T1.cg T1.ct T1.co
  cases r with
  | cons rx rr =>
    cases rr with
    | cons rt rr =>
      cases rr
      cases rx
      cases tp with
      | false =>
        rw [if_neg (by decide)] at hc T2
        obtain ⟨g, rfl, hc⟩ := hc
        rw [hc _ rt]
        exact PySem.W.kia_one Z I.kIn J T2 (fun z => nomatch z) fun tk => ⟨.bl b, H, I.kept (t' := tk) fun _ _ z => z, rfl, q⟩
      | true =>
        rw [if_pos rfl] at hc T2
        obtain ⟨t, ws, rfl, hs, hp⟩ := hc
        obtain ⟨its, rv, pl, hlen⟩ := I.tuple hs
        obtain ⟨⟨cls, dd, dt, sl⟩, ho, hc2, n, hd2⟩ := pl
        simp only at hc2 hd2
        subst hc2 hd2
        obtain rfl := (show _ = Value.ref t from rt)
        have ei := tags_v hp rv
        subst ei
        exact PySem.W.kia_tup Z I.kIn J ho T2 (fun z => nomatch z) fun tk => ⟨.bl b, H, I.kept (t' := tk) fun _ _ z => z, rfl, q⟩
def tag1 : D → Option CTag
  | .adr C => some (.a C)
  | .ty n => some (.t n)
  | _ => none
def tagL : List D → Option (List CTag)
  | [] => some []
  | d :: r => match tag1 d, tagL r with
    | some c, some l => some (c :: l)
    | _, _ => none
def tagsOf : D → Option (Bool × List CTag)
  | .tup ds => (tagL ds).map fun l => (true, l)
  | d => (tag1 d).map fun c => (false, [c])
theorem tag1_v {K : PySem.W.Frag} {F : Hp} {m : List Addr} {d : D} {v : V} {g : CTag} (r : Rep K F m d v) (e : tag1 d = some g) : ∀ u, RelV v u → u = g.v := by
  cases r with
  | adr a => cases e; exact fun u h => h
  | ty n => cases e; exact fun u h => h
  | _ => cases e
theorem tagL_v {K : PySem.W.Frag} {F : Hp} {m : List Addr} : ∀ {ds : List D} {vs : List V} {l : List CTag}, RepL K F m ds vs → tagL ds = some l → Paired (fun (g : CTag) (w : V) => ∀ u, RelV w u → u = g.v) l vs
  | [], [], l, .nil, e => by cases e; exact .nil
  | d :: r, v :: vs, l, .cons a b, e => by
    unfold tagL at e
    split at e
    · rename_i c l' h1 h2
      cases e
      exact .cons (tag1_v a h1) (tagL_v b h2)
    · cases e
def fIsX (tp : Bool) (cs : List CTag) (tab : List (Addr × Bool)) (ds : List D) (S : Sto) : Res D := match ds with
  | [.xc C _ _, c] => if tagsOf c = some (tp, cs) then match tab.lookup C with
      | some b => .ok (.bl b) S
      | none => .bad
    else .bad
  | _ => .bad
theorem k_isX {tp : Bool} {cs : List CTag} {tab : List (Addr × Bool)} : RLK X (rIsX X.K tp cs tab) (fIsX tp cs tab) := by
  intro H S F m xs ds Q E h r p
  unfold fIsX at p
  split at p
  · rename_i C f ys c
    cases r with
    | @cons _ v1 _ _ r1 rr =>
      cases rr with
      | @cons _ v2 _ _ r2 rr =>
        cases rr
        split at p
        · rename_i et
          split at p
          · rename_i b eb
            have key : ∃ a d, v1 = .ref a ∧ H a = some (ExV (.ref C) d a) ∧ ∀ dd, d = some dd → ∃ fs, H dd = some (.xd fs) := by
              cases r1 with
              | xc0 f1 => exact ⟨_, _, rfl, h.fz _ _ f1, fun dd e => by cases e⟩
              | xc1 f1 f2 _ => exact ⟨_, _, rfl, h.fz _ _ f1, fun dd e => by cases e; exact ⟨_, h.fz _ _ f2⟩⟩
            obtain ⟨a, d, rfl, ea, ed⟩ := key
            refine ⟨a, C, d, b, v2, rfl, ea, ed, eb, ?_, p _ H F m h (Ext.refl _ _ _) (.bl b)⟩
            unfold tagsOf at et
            split at et
            · rename_i ts
              cases el : tagL ts with
              | none => rw [el] at et; cases et
              | some l =>
                rw [el] at et
                cases et
                rw [if_pos rfl]
                cases r2 with
                | @tup q _ ws hz ff rr => exact ⟨q, ws, rfl, .inl (.inl (h.fz _ _ ff)), tagL_v rr el⟩
            · cases el : tag1 c with
              | none => rw [el] at et; cases et
              | some g =>
                rw [el] at et
                cases et
                rw [if_neg (by decide)]
                exact ⟨g, rfl, tag1_v r2 el⟩
          · exact p.elim
        · exact p.elim
  · exact p.elim
end
structure XR0 (K : PySem.W.Frag) (C : Addr) (bm : List Value) (nw : String) : Prop where
  q : PySem.W.excIn K C bm nw = true
  k : PySem.W.keepIn K (.ref C) = true
  b : PySem.W.subIn K (.ref C) (.type "BaseException") = some true
  t : PySem.W.typeIn K (.ref C) = some (.type "type")
theorem x_clsd {K : PySem.W.Frag} {C : Addr} (h : PySem.W.hasDictIn K C = true) : (PySem.W.clsIn K C).isSome = true := by
  obtain ⟨cd, e, _⟩ := PySem.W.any_some h
  rw [e]
  rfl
theorem _root_.L2H.RoomH.units {k : Nat} {A : Around} (r : L2H.RoomH k A) : A.units + 64 < cLine := by have := r.un; omega
/-- a table's answer -/
theorem lk_nd : ∀ {l : List Addr} {tab : List (Addr × Bool)} {i : Nat} {C : Addr} {b : Bool}, l.Nodup → tab.map (·.1) = l → tab[i]? = some (C, b) → List.lookup C tab = some b
  | l, [], i, C, b, _, _, h => by simp at h
  | l, (g, z) :: r, 0, C, b, _, _, h => by
    cases h
    simp [List.lookup]
  | l, (g, z) :: r, i + 1, C, b, nd, e, h => by
    subst e
    have hm : (C, b) ∈ r := List.mem_of_getElem? (by simpa using h)
    obtain ⟨n1, n2⟩ := List.nodup_cons.mp nd
    have ne : (C == g) = false := by
      rw [beq_eq_false_iff_ne]
      rintro rfl
      exact n1 (List.mem_map.mpr ⟨_, hm, rfl⟩)
    rw [List.lookup_cons, ne]
    exact lk_nd n2 rfl (by simpa using h)
/-! ### facts about classes -/
section
variable {K : PySem.W.Frag} {C D' : Addr} {b b1 b2 b3 : Bool}
theorem kit_sub (hd : PySem.W.hasDictIn K D' = true) (ty : PySem.W.typeIn K (.ref D') = some (.type "type")) (hs : PySem.W.subIn K (.ref D') (.ref D') = some true) (h : PySem.W.subIn K (.ref C) (.ref D') = some b) : PySem.W.kitOne K (.ref C) (.ref D') = some b := by
  unfold PySem.W.kitOne
  by_cases e : (Value.ref C == Value.ref D') = true
  · rw [if_pos e]
    obtain rfl : C = D' := Value.ref.inj (beq_iff_eq.mp e)
    rw [hs] at h
    exact h
  · rw [if_neg e]
    obtain ⟨cd, hc, _⟩ := PySem.W.any_some hd
    show (if ((PySem.W.clsIn K D').isSome && PySem.W.typeIn K (.ref D') == some (.type "type")) = true then PySem.W.subIn K (.ref C) (.ref D') else none) = some b
    rw [if_pos (by rw [hc, ty] <;> rfl)]
    exact h
theorem kit_subT {T : String} (hm : PySem.W.kitMeta T = true) (h : PySem.W.subIn K (.ref C) (.type T) = some b) : PySem.W.kitOne K (.ref C) (.type T) = some b := by
  unfold PySem.W.kitOne
  rw [if_neg (show ¬ (Value.ref C == Value.type T) = true from fun e => by cases beq_iff_eq.mp e)]
  show (if PySem.W.kitMeta T = true then PySem.W.subIn K (.ref C) (.type T) else none) = some b
  rw [if_pos hm]
  exact h
theorem kit_nil {t : Value} : PySem.W.kitAny K t [] = some false := rfl
theorem kit_cons {t c : Value} {r : List Value} (h1 : PySem.W.kitOne K t c = some b1) (h2 : PySem.W.kitAny K t r = some b2) : PySem.W.kitAny K t (c :: r) = some (b1 || b2) := by
  unfold PySem.W.kitAny
  rw [h1]
  cases b1
  · exact h2
  · rfl
theorem exm_two {t c1 c2 : Value} (h1 : PySem.W.exmOne K t c1 = some b1) (h2 : PySem.W.exmOne K t c2 = some b2) : PySem.W.exmAny K t [c1, c2] = some (b1 || b2) := by
  unfold PySem.W.exmAny PySem.W.exmAny PySem.W.exmAny
  rw [h1, h2]
  simp
theorem exm_three {t c1 c2 c3 : Value} (h1 : PySem.W.exmOne K t c1 = some b1) (h2 : PySem.W.exmOne K t c2 = some b2) (h3 : PySem.W.exmOne K t c3 = some b3) : PySem.W.exmAny K t [c1, c2, c3] = some (b1 || (b2 || b3)) := by
  unfold PySem.W.exmAny PySem.W.exmAny PySem.W.exmAny PySem.W.exmAny
  rw [h1, h2, h3]
  simp
theorem exm_subT {T : String} (hb : PySem.W.subIn K (.type T) (.type "BaseException") = some true) (hm : PySem.W.kitMeta T = true) (h : PySem.W.subIn K (.ref C) (.type T) = some b) : PySem.W.exmOne K (.ref C) (.type T) = some b := by
  unfold PySem.W.exmOne
  rw [if_pos (by rw [hb] <;> rfl)]
  show (if PySem.W.kitMeta T = true then PySem.W.subIn K (.ref C) (.type T) else none) = some b
  rw [if_pos hm]
  exact h
end
/-! ### reasoning -/
section
variable {N B C : DEnv → Sto → Prop} {R : D → Sto → Prop} {ρ : DEnv} {S : Sto}
theorem lk_none1 {f g : Str} {d : D} (h : (f == g) = false) : List.lookup f [(g, d)] = none := by simp [List.lookup, h]
theorem ws_raise {A : Addr} {f : Str} {gs : Ev (List D)} (q : WpE (ES.at ρ) (gs ρ S) fun ds S1 => ∃ d, ds = [d] ∧ ES.p ⟨A, f, [d]⟩ ρ S1) : WsE ES (dRaise A f gs ρ S) N R B C := by
  unfold dRaise
  rw [ws_bindS]
  refine WpE.mp q fun ds S1 h => ?_
  obtain ⟨d, rfl, h⟩ := h
  exact h
theorem ws_raise0 {A : Addr} (q : ES.p ⟨A, Str.empty, []⟩ ρ S) : WsE ES (dRaise0 A ρ S) N R B C := q
theorem ws_try {g : St'} {hs : List Hd} (q : WsE ⟨fun x ρ1 S1 => WsE ES (dHs hs x ρ1 S1) N R B C⟩ (g ρ S) N R B C) : WsE ES (dTry g hs ρ S) N R B C := by
  unfold dTry
  cases e : g ρ S with
  | exc x ρ1 S1 => rw [e] at q; exact q
  | nx _ _ => rw [e] at q; exact q
  | rt _ _ => rw [e] at q; exact q
  | bk _ _ => rw [e] at q; exact q
  | ct _ _ => rw [e] at q; exact q
  | bad => rw [e] at q; exact q
theorem ws_hdT {tab : Addr → Option Bool} {i : Option Nat} {g : St'} {r : List Hd} {A : Addr} {f : Str} {xs : List D} (e : tab A = some true) (q : WsE noXs (g (setE i (.xc A f xs) ρ) S) (fun ρ1 S1 => N (goneE i ρ1) S1) R (fun ρ1 S1 => B (goneE i ρ1) S1) (fun ρ1 S1 => C (goneE i ρ1) S1)) : WsE ES (dHs ((tab, i, g) :: r) ⟨A, f, xs⟩ ρ S) N R B C := by
  unfold dHs
  dsimp only
  rw [e]
  dsimp only
  cases e2 : g (setE i (.xc A f xs) ρ) S with
  | exc x ρ1 S1 => rw [e2] at q; exact q.elim
  | nx _ _ => rw [e2] at q; exact q
  | rt _ _ => rw [e2] at q; exact q
  | bk _ _ => rw [e2] at q; exact q
  | ct _ _ => rw [e2] at q; exact q
  | bad => rw [e2] at q; exact q
theorem ws_hdF {tab : Addr → Option Bool} {i : Option Nat} {g : St'} {r : List Hd} {A : Addr} {f : Str} {xs : List D} (e : tab A = some false) (q : WsE ES (dHs r ⟨A, f, xs⟩ ρ S) N R B C) : WsE ES (dHs ((tab, i, g) :: r) ⟨A, f, xs⟩ ρ S) N R B C := by
  unfold dHs
  dsimp only
  rw [e]
  exact q
theorem ws_hdN {x : XV} (q : ES.p x ρ S) : WsE ES (dHs [] x ρ S) N R B C := q
theorem wp_xf {l : List Addr} {f : Str} {go : Ev D} {Q : D → Sto → Prop} (q : WpE EX (go ρ S) fun x S1 => ∃ A d, x = .xc A f [d] ∧ A ∈ l ∧ Q d S1) : WpE EX (dXfL l f go ρ S) Q := by
  unfold dXfL
  rw [wp_bind]
  refine WpE.mp q fun x S1 h => ?_
  obtain ⟨A, d, rfl, hm, h⟩ := h
  dsimp only
  rw [if_pos ⟨rfl, hm⟩]
  exact h
theorem wp_isX {tp : Bool} {cs : List CTag} {tab : List (Addr × Bool)} {A : Addr} {f : Str} {xs : List D} {c : D} {b : Bool} {Q : D → Sto → Prop} (e1 : tagsOf c = some (tp, cs)) (e2 : tab.lookup A = some b) (q : Q (.bl b) S) : WpE EX (fIsX tp cs tab [.xc A f xs, c] S) Q := by
  unfold fIsX
  dsimp only
  rw [if_pos e1, e2]
  exact q
end
end DL

/-! DL: operators of own classes that may raise. -/
namespace DL
open PySem PySem.Spec PyProof.Rows L2
variable {EX : XP} {ES : XPs}
def dOwnX (C : Addr) (den : List D → Sto → Res D) (ga gb : Ev D) : Ev D := fun ρ S => (ga ρ S).bind fun x S1 => (gb ρ S1).bind fun y S2 => match insAt C S2 x, insAt C S2 y with
  | some _, some _ => den [x, y] S2
  | _, _ => .bad
def tOwnX (X : Cx) (W : WX) (C : Addr) (den : List D → Sto → Res D) (ta tb : TE) : TE := fun σ H Q => ta σ H fun x H1 => tb σ H1 fun y H2 => ∃ a b dx dy fs gs, x = .ref a ∧ y = .ref b ∧ H2 a = some (.ins C dx fs) ∧ H2 b = some (.ins C dy gs) ∧
  ∃ F m ds S, HSt X.K H2 S F m ∧ RepL X.K F m ds [.ref a, .ref b] ∧ Post (Rep X.K) X.mg X.K H2 F m (den ds S) Q (fun c d H' => W c d σ H')
section
variable {X : Cx} {C g : Addr} {k j : Nat} {den : List D → Sto → Res D} {a b : Expr} {ga gb : Ev D} {pos : Pos}
theorem de_ownX {op : Operator} (G : FnG X.prog X.w X.K X.mg X.base k g 2 den) (ok : XOk X j) (hk : k ≤ j) (hc : PySem.W.selfFirst X.K C = true) (hs : PySem.W.findIn X.K (.ref C) (PySem.dunder op.info.2) = some (some (.ref g))) (hf : PySem.W.isFn X.K (.ref g) = true)
    (ha : DE X a ga) (hb : DE X b gb) : DE X (.BinOp a op b pos) (dOwnX C den ga gb) := by
  refine ⟨fun W tk => ?_⟩
  obtain ⟨ta, pa, ra⟩ := ha.ex W tk
  obtain ⟨tb, pb, rb⟩ := hb.ex W tk
  refine ⟨tOwnX X W C den ta tb, ⟨fun pins s σ H Q I h => ?_⟩, fun σ H ρ S F m Q sl h q => ?_⟩
  · refine wpAny_BinOp (binT pa pb I (R := fun x y H2 => ∃ a b dx dy fs gs, x = .ref a ∧ y = .ref b ∧ H2 a = some (.ins C dx fs) ∧ H2 b = some (.ins C dy gs) ∧ ∃ F m ds S, HSt X.K H2 S F m ∧ RepL X.K F m ds [.ref a, .ref b] ∧ Post (Rep X.K) X.mg X.K H2 F m (den ds S) Q (fun c d H' => W c d σ H')) h fun v u s2 x y H2 I2 rx ry q => ?_)
    obtain ⟨p, r, dx, dy, fs, gs, rfl, rfl, hp, hr, F, m, ds, S, hst, rep, post⟩ := q
    cases (show v = Value.ref p from rx)
    cases (show u = Value.ref r from ry)
    obtain ⟨mA, J, _⟩ := ins_get I2.hok hp
    obtain ⟨mB, J2, _⟩ := ins_get I2.hok hr
    obtain ⟨od, J, _⟩ := J.look
    obtain ⟨od2, J2, _⟩ := J2.look
    obtain ⟨m2, hF⟩ := I2.fr
    refine PySem.W.binop_K hF I2.ok.mod.kin J J2.type hc hs hf (wpAny_mono (run_g (us := [.ref p, .ref r]) (vs := [.ref p, .ref r]) G ok hk tk I2 (.cons rfl (.cons rfl .nil)) rfl hst rep post) (fun w s3 z => ?_) fun _ _ x => x)
    obtain ⟨z', H', I', rz, qz⟩ := z
    exact cmpb rz ⟨z', H', I', rz, qz⟩
  · refine ra σ H ρ S F m _ sl h (Post.bind q fun x S1 v H1 F1 m1 h1 x1 r1 p1 => ?_)
    refine rb σ H1 ρ S1 F1 m1 _ (sl.le x1.le) h1 (Post.bind p1 fun y S2 u H2 F2 m2 h2 x2 r2 p2 => ?_)
    cases e1 : insAt C S2 x with
    | none => rw [e1] at p2; exact p2.elim
    | some z =>
      cases e2 : insAt C S2 y with
      | none => rw [e1, e2] at p2; exact p2.elim
      | some z' =>
        rw [e1, e2] at p2
        obtain ⟨i1, f1⟩ := z
        obtain ⟨i2, f2⟩ := z'
        have r1 := r1.le x2.le
        obtain ⟨rfl, es1, p, d1, v1, rfl, l1, g1, kv1⟩ := insAt_ok h2 r1 e1
        obtain ⟨rfl, es2, q, d2, v2, rfl, l2, g2, kv2⟩ := insAt_ok h2 r2 e2
        exact ⟨p, q, d1, d2, v1, v2, rfl, rfl, g1, g2, F2, m2, _, S2, h2, .cons r1 (.cons r2 .nil), p2⟩
end
theorem wp_ownX {ρ : DEnv} {S : Sto} {C : Addr} {den : List D → Sto → Res D} {ga gb : Ev D} {Q : D → Sto → Prop}
    (q : WpE EX (ga ρ S) fun x S1 => WpE EX (gb ρ S1) fun y S2 => ∃ n fs m gs, x = .loc n ∧ y = .loc m ∧ S2[n]? = some (.ins C fs) ∧ S2[m]? = some (.ins C gs) ∧ WpE EX (den [.loc n, .loc m] S2) Q) : WpE EX (dOwnX C den ga gb ρ S) Q := by
  unfold dOwnX
  rw [wp_bind]
  refine WpE.mp q fun x S1 h => ?_
  rw [wp_bind]
  refine WpE.mp h fun y S2 h => ?_
  obtain ⟨n, fs, m, gs, rfl, rfl, e1, e2, h⟩ := h
  rw [insAt_loc e1, insAt_loc e2]
  exact h
end DL

/-! DL: repr of data with dicts in it. -/
namespace DL
open PySem PySem.Spec PyProof.Rows L2
variable {EX : XP} {ES : XPs}
/-- the module table stands in the ground heap -/
def SM (base : Heap) : Prop := ∃ o, base.get? sysModules = some o
mutual
/-- data that repr shows -/
def D.isR : D → Bool
  | .non => true
  | .bl _ => true
  | .int _ => true
  | .str _ => true
  | .tup xs => D.isRL xs
  | .tupZ xs => D.isRL xs
  | .lst xs => D.isRL xs
  | .dic0 => true
  | .dicS _ => true
  | .scr _ => false
  | .loc _ => false
  | .adr _ => false
  | .ty _ => false
  | .xc _ _ _ => false
def D.isRL : List D → Bool
  | [] => true
  | d :: ds => d.isR && D.isRL ds
end
section
variable {X : Cx} {pins : List (Addr × Obj)} {σ : L2.St} {H F : Hp} {s : Shared} {m : List Addr}
theorem sm_none (I : Inv X pins σ H s) (sm : SM X.base) : H sysModules = Option.none := by
  obtain ⟨o, e⟩ := sm
  obtain ⟨h1, h2⟩ := I.ok.bs _ _ e
  exact I.base.free _ _ h1 h2 (I.ok.noex _ _ e)
/-- the entries of a dict from texts to ints -/
theorem pairs_reads {P : Program} {w : World} {h : Heap} : ∀ {kvs : List (Str × Int)} {vs : List (Key × Value)} {es : List DictEntry}, KV (kvs.map fun p => (Sum.inr p.1, V.int p.2)) vs → Pairs (mixKind P w) es vs →
    ReadsAll h (es.map (·.key)) ((kvs.map fun p => (PyData.str p.1, PyData.int p.2)).map (·.1)) [] ∧ ReadsAll h (es.map (·.val)) ((kvs.map fun p => (PyData.str p.1, PyData.int p.2)).map (·.2)) []
  | [], [], [], _, _ => ⟨.nil, .nil⟩
  | p :: r, (k, v) :: vs, e :: es, .cons h1 t, .cons hk hv ht => by
    obtain ⟨e1, rv⟩ := h1
    have e1 : Sum.inr p.1 = k := e1
    subst e1
    obtain ⟨tk, rfl⟩ : ∃ t, v = Value.int p.2 t := rv
    obtain ⟨q1, q2⟩ := pairs_reads (h := h) t ht
    obtain ⟨tk2, e2⟩ := Value.isStrOf_shape (x := p.1) (v := e.key) hk
    have hv : e.val = Value.int p.2 tk := hv
    refine ⟨?_, ?_⟩
    · show ReadsAll h (e.key :: es.map (·.key)) (PyData.str p.1 :: _) []
      rw [e2]
      exact ReadsAll.cons (as := []) (Reads.str p.1 tk2) q1
    · show ReadsAll h (e.val :: es.map (·.val)) (PyData.int p.2 :: _) []
      rw [hv]
      exact ReadsAll.cons (as := []) (Reads.int p.2 tk) q2
mutual
theorem rep_reads (I : Inv X pins σ H s) (le : ∀ a o, F a = some o → H a = some o) : ∀ {d : D} {v : V} {u : Value}, Rep X.K F m d v → d.isR = true → RelV v u → ∃ as, Reads s.heap u d.py as ∧ ∀ a ∈ as, H a ≠ Option.none
  | _, _, _, .non, _, r => by cases r; exact ⟨_, Reads.none, fun a z => by cases z⟩
  | _, _, _, .bl b, _, r => by cases r; exact ⟨_, Reads.bool b, fun a z => by cases z⟩
  | _, _, _, .int i, _, r => by obtain ⟨t, rfl⟩ := r; exact ⟨_, Reads.int i t, fun a z => by cases z⟩
  | _, _, _, .str x _, _, r => by obtain ⟨t, rfl⟩ := r; exact ⟨_, Reads.str x t, fun a z => by cases z⟩
  | _, _, _, .tup z f q, h, r => by
    cases r
    obtain ⟨its, rv, ⟨o, ho, hc, n, hd⟩, _⟩ := I.tuple (.inl (.inl (le _ _ f)))
    obtain ⟨as, hr, ha⟩ := repL_reads I le q h rv
    exact ⟨_, Reads.tuple ho hc hd hr, ha⟩
  | _, _, _, .tupZ z f q, h, r => by
    cases r
    obtain ⟨o', f, _⟩ := f
    obtain ⟨its, rv, ⟨o, ho, hc, n, hd⟩, _⟩ := I.tuple (.inl (.inr ⟨o', le _ _ f⟩))
    obtain ⟨as, hr, ha⟩ := repL_reads I le q h rv
    exact ⟨_, Reads.tuple ho hc hd hr, ha⟩
  | _, _, _, .lst z f q, h, r => by
    cases r
    obtain ⟨its, rv, ⟨o, n, ho, hc, _, hd⟩, _⟩ := I.list (.inl (.inl (le _ _ f)))
    obtain ⟨as, hr, ha⟩ := repL_reads I le q h rv
    exact ⟨_, Reads.list ho hc hd hr, fun a hm => (List.mem_cons.mp hm).elim (fun e => by rw [e, le _ _ f]; simp) (ha a)⟩
  | _, _, _, .dic0 f, _, r => by
    cases r
    obtain ⟨_, _, vs, kv, o, es, ep, ho, hx, hd, hk, hp, _⟩ := dk_of I.hok (le _ _ f)
    have hc : o.cls = .type "dict" := hx.1
    obtain ⟨q1, q2⟩ := pairs_reads (h := s.heap) (kvs := []) kv hp
    refine ⟨_, Reads.dict (kvs := []) ho hc hd q1 q2, fun a hm => ?_⟩
    have e : a = _ := List.mem_singleton.mp (by simpa using hm)
    rw [e, le _ _ f]; simp
  | _, _, _, .dicS z f, _, r => by
    cases r
    obtain ⟨_, _, vs, kv, o, es, ep, ho, hx, hd, hk, hp, _⟩ := dk_of I.hok (le _ _ f)
    have hc : o.cls = .type "dict" := hx.1
    obtain ⟨q1, q2⟩ := pairs_reads (h := s.heap) kv hp
    refine ⟨_, Reads.dict ho hc hd q1 q2, fun a hm => ?_⟩
    have e : a = _ := List.mem_singleton.mp (by simpa using hm)
    rw [e, le _ _ f]; simp
  | _, _, _, .scr _ _ _, h, _ => by cases h
  | _, _, _, .loc _, h, _ => by cases h
  | _, _, _, .adr _, h, _ => by cases h
  | _, _, _, .ty _, h, _ => by cases h
  | _, _, _, .xc0 _, h, _ => by cases h
  | _, _, _, .xc1 _ _ _, h, _ => by cases h
theorem repL_reads (I : Inv X pins σ H s) (le : ∀ a o, F a = some o → H a = some o) : ∀ {ds : List D} {vs : List V} {us : List Value}, RepL X.K F m ds vs → D.isRL ds = true → Vals vs us → ∃ as, ReadsAll s.heap us (D.pyL ds) as ∧ ∀ a ∈ as, H a ≠ Option.none
  | _, _, _, .nil, _, .nil => ⟨_, ReadsAll.nil, fun a z => by cases z⟩
  | _, _, _, .cons a b, h, .cons r1 r2 => by
    obtain ⟨as, q1, h1⟩ := rep_reads I le a (by simp [D.isRL] at h; exact h.1) r1
    obtain ⟨bs, q2, h2⟩ := repL_reads I le b (by simp [D.isRL] at h; exact h.2) r2
    exact ⟨_, ReadsAll.cons q1 q2, fun c hc => (List.mem_append.mp hc).elim (h1 c) (h2 c)⟩
end
end
/-- the data that repr sees: a list of the store counts as a list -/
def dataR (S : Sto) (d : D) : Option D := match d with
  | .loc n => match S[n]? with
    | some (.lst xs) => if D.isRL xs = true then some (.lst xs) else none
    | _ => none
  | d => if d.isR = true then some d else none
def fReprD (ds : List D) (S : Sto) : Res D := match ds with
  | [d] => match dataR S d with
    | some e => if e.py.showable = true ∧ e.py.shown.length ≤ sizeLine ∧ e.py.depth ≤ 60 then .ok (.str e.py.shown) S else .bad
    | none => .bad
  | _ => .bad
def rReprD (X : Cx) : List V → Hp → VK → Prop := fun xs H Q => ∃ x d, xs = [x] ∧ (∀ pins σ s u, Inv X pins σ H s → RelV x u → ∃ as, Reads s.heap u d as ∧ ∀ a ∈ as, H a ≠ Option.none) ∧ d.showable = true ∧ d.shown.length ≤ sizeLine ∧ d.depth ≤ 60 ∧ Q (.str d.shown) H
section
variable {X : Cx}
theorem call_reprD {j : Nat} (ok : XQk X j) (sm : SM X.base) : CallR X (.builtin "repr") (rReprD X) := by
  intro pins s σ H xs us Q I r h
  obtain ⟨x, y, rfl, hd, hs, hz, hdep, q⟩ := h
  obtain ⟨u, rfl, ru⟩ := vals1 r
  obtain ⟨as, rd, ha⟩ := hd _ _ _ _ I ru
  have hsm : y.hasDict = true → sysModules ∉ as := fun _ hm => ha _ hm (sm_none I sm)
  have hun : X.A.units + 64 < cLine := by have := ok.room.un; omega
  cases rd with
  | none => exact PySem.P.repr_of_none ⟨.str _, H, I.tok _, ⟨_, rfl⟩, by simpa only [PyData.shown] using q⟩
  | bool z => exact PySem.P.repr_of_bool ⟨.str _, H, I.tok _, ⟨_, rfl⟩, by simpa only [PyData.shown] using q⟩
  | int z t => exact PySem.P.repr_of_int (by simpa [PyData.showable] using hs) ⟨.str _, H, I.tok _, ⟨_, rfl⟩, by simpa only [PyData.shown] using q⟩
  | str z t => exact PySem.P.repr_of_str ⟨.str _, H, I.tok _, ⟨_, rfl⟩, by simpa only [PyData.shown] using q⟩ (by simpa only [PyData.shown] using hz)
  | list h1 h2 h3 h4 => exact repr_of_reads' (.list h1 h2 h3 h4) hs hsm ok.grd (by omega) (fun _ _ z => z) (fun h' t tk hk => ⟨.str _, H, I.kept hk, ⟨_, rfl⟩, q⟩) hz
  | tuple h1 h2 h3 h4 => exact repr_of_reads' (.tuple h1 h2 h3 h4) hs hsm ok.grd (by omega) (fun _ _ z => z) (fun h' t tk hk => ⟨.str _, H, I.kept hk, ⟨_, rfl⟩, q⟩) hz
  | dict h1 h2 h3 h4 h5 => exact repr_of_reads' (.dict h1 h2 h3 h4 h5) hs hsm ok.grd (by omega) (fun _ _ z => z) (fun h' t tk hk => ⟨.str _, H, I.kept hk, ⟨_, rfl⟩, q⟩) hz
theorem k_reprD : RLK X (rReprD X) fReprD := by
  intro H S F m xs ds Q E h r p
  unfold fReprD at p
  split at p
  · rename_i d
    cases r with
    | @cons _ v _ _ r1 rr =>
      cases rr
      split at p
      · rename_i e ed
        split at p
        · rename_i hc
          refine ⟨v, e.py, rfl, ?_, hc.1, hc.2.1, hc.2.2, p _ H F m h (Ext.refl _ _ _) (.str _ hc.2.1)⟩
          unfold dataR at ed
          split at ed
          · rename_i n
            split at ed
            · rename_i ys es
              split at ed
              · rename_i hr
                cases ed
                cases r1 with
                | @loc _ a l =>
                  obtain ⟨_, ho, h1, vs, rfl, h2, h3⟩ := h.sto _ _ _ l es (by intro z; cases z)
                  intro pins σ s u I ru
                  cases ru
                  obtain ⟨its, rv, ⟨o, n, ho, hcl, _, hd⟩, _⟩ := I.list (.inl (.inl h1))
                  obtain ⟨as, q, ha⟩ := repL_reads I h.fz h3 hr rv
                  exact ⟨_, Reads.list ho hcl hd q, fun b hm => (List.mem_cons.mp hm).elim (fun e => by rw [e, h1]; simp) (ha b)⟩
              · cases ed
            · cases ed
          · split at ed
            · rename_i hr
              cases ed
              exact fun pins σ s u I ru => rep_reads I h.fz r1 hr ru
            · cases ed
        · exact p.elim
      · exact p.elim
  · exact p.elim
end
/-! ### data whose text fits -/
structure SmD (d : D) (n : Nat) : Prop where
  r : d.isR = true
  sh : d.py.showable = true
  lv : d.py.leavesShort 60 = true
  wt : d.py.weight ≤ n
  dp : d.py.depth ≤ 20
structure SmDL (ds : List D) (n : Nat) : Prop where
  r : D.isRL ds = true
  sh : PyData.showableAll (D.pyL ds) = true
  lv : PyData.leavesShortAll 60 (D.pyL ds) = true
  wt : PyData.weightAll (D.pyL ds) ≤ n
  dp : PyData.depthAll (D.pyL ds) ≤ 19
theorem smd_int {i : Int} (h : i.natAbs < 10 ^ 50) : SmD (.int i) 200 := by
  have h2 : i.natAbs.log2 ≤ 199 := by
    by_cases z : i.natAbs = 0
    · rw [z]; decide
    · exact Nat.le_of_lt_succ ((Nat.log2_lt z).mpr (Nat.lt_of_lt_of_le h (by decide)))
  refine ⟨rfl, ?_, ?_, ?_, ?_⟩
  · simp only [D.py, PyData.showable, decide_eq_true_eq]; omega
  · simp only [D.py, PyData.leavesShort, decide_eq_true_eq]
    have e := int_text_length_le10 (k := 50) (by decide) h
    show (Str.ofString (toString i)).length ≤ 60
    rw [PySem.ofString_length]; exact Nat.le_trans e (by decide)
  · simp only [D.py, PyData.weight]
    split <;> omega
  · simp only [D.py, PyData.depth]; omega
theorem smd_bl (b : Bool) : SmD (.bl b) 0 := ⟨rfl, by simp only [D.py, PyData.showable], by cases b <;> decide +kernel, by simp [D.py, PyData.weight], by simp [D.py, PyData.depth]⟩
theorem smd_non : SmD .non 0 := ⟨rfl, by simp only [D.py, PyData.showable], by decide +kernel, by simp [D.py, PyData.weight], by simp [D.py, PyData.depth]⟩
theorem smd_dic0 : SmD .dic0 0 := ⟨rfl, by decide +kernel, by decide +kernel, by decide +kernel, by decide +kernel⟩
theorem smdl_nil : SmDL [] 0 := ⟨rfl, by simp [D.pyL, PyData.showableAll], by simp [D.pyL, PyData.leavesShortAll], by simp [D.pyL, PyData.weightAll], by simp [D.pyL, PyData.depthAll]⟩
theorem smdl_cons {d : D} {ds : List D} {n k : Nat} (h : SmD d n) (h1 : d.py.depth ≤ 19) (r : SmDL ds k) : SmDL (d :: ds) (n + k + 2) := by
  refine ⟨?_, ?_, ?_, ?_, ?_⟩
  · simp [D.isRL, h.r, r.r]
  · simp [D.pyL, PyData.showableAll, h.sh, r.sh]
  · simp [D.pyL, PyData.leavesShortAll, h.lv, r.lv]
  · simp only [D.pyL, PyData.weightAll]; have := h.wt; have := r.wt; omega
  · simp only [D.pyL, PyData.depthAll]; have := r.dp; omega
theorem smd_tup {ds : List D} {n : Nat} (r : SmDL ds n) : SmD (.tup ds) (n + 2) := by
  refine ⟨by simp [D.isR, r.r], by simp [D.py, PyData.showable, r.sh], by simp [D.py, PyData.leavesShort, r.lv], ?_, ?_⟩
  · simp only [D.py, PyData.weight]; have := r.wt; omega
  · simp only [D.py, PyData.depth]; have := r.dp; omega
theorem smd_tupZ {ds : List D} {n : Nat} (r : SmDL ds n) : SmD (.tupZ ds) (n + 2) := by
  refine ⟨by simp [D.isR, r.r], by simp [D.py, PyData.showable, r.sh], by simp [D.py, PyData.leavesShort, r.lv], ?_, ?_⟩
  · simp only [D.py, PyData.weight]; have := r.wt; omega
  · simp only [D.py, PyData.depth]; have := r.dp; omega
theorem smd_lst {ds : List D} {n : Nat} (r : SmDL ds n) : SmD (.lst ds) (n + 2) := by
  refine ⟨by simp [D.isR, r.r], by simp [D.py, PyData.showable, r.sh], by simp [D.py, PyData.leavesShort, r.lv], ?_, ?_⟩
  · simp only [D.py, PyData.weight]; have := r.wt; omega
  · simp only [D.py, PyData.depth]; have := r.dp; omega
theorem SmD.mono {d : D} {n k : Nat} (h : SmD d n) (z : n ≤ k) : SmD d k := ⟨h.r, h.sh, h.lv, Nat.le_trans h.wt z, h.dp⟩
theorem SmDL.mono {d : List D} {n k : Nat} (h : SmDL d n) (z : n ≤ k) : SmDL d k := ⟨h.r, h.sh, h.lv, Nat.le_trans h.wt z, h.dp⟩
theorem data_isR {S : Sto} {d : D} (h : d.isR = true) : dataR S d = some d := by
  cases d with
  | loc n => cases h
  | _ => unfold dataR; dsimp only; rw [if_pos h]
theorem wp_reprD {S : Sto} {d : D} {n : Nat} {Q : D → Sto → Prop} (h : SmD d n) (hn : n ≤ 2 ^ 17) (q : Q (.str d.py.shown) S) : WpE EX (fReprD [d] S) Q := by
  unfold fReprD
  dsimp only
  rw [data_isR h.r]
  dsimp only
  have hl : d.py.shown.length ≤ sizeLine := by
    have z := PyData.shown_le 60 (by decide) d.py h.lv
    have := h.wt
    have e : (2 : Nat) ^ 17 = 131072 := by decide
    have h2 : 62 * d.py.weight ≤ 62 * 131072 := Nat.mul_le_mul (Nat.le_refl _) (by omega)
    rw [sizeLine_eq]
    omega
  rw [if_pos ⟨h.sh, hl, Nat.le_trans h.dp (by decide)⟩]
  exact q
end DL
namespace DL
open PySem PySem.Spec PyProof.Rows L2
variable {EX : XP} {ES : XPs}
theorem de_dic0 {X : Cx} {pos : Pos} : DE X (.Dict [] [] pos) (dK .dic0) :=
  ⟨fun W tk => ⟨_, pe_dnewK, fun σ H ρ S F m Q sl h q a n => q _ _ _ m (h.froz n _) (h.frozE n _) (.dic0 upd_same)⟩⟩
def smdB (d : D) (n : Nat) : Bool := d.isR && (d.py.showable && (d.py.leavesShort 60 && (decide (d.py.weight ≤ n) && decide (d.py.depth ≤ 20))))
theorem smd_dec {d : D} {n : Nat} (h : smdB d n = true) : SmD d n := by
  unfold smdB at h
  simp only [Bool.and_eq_true, decide_eq_true_eq] at h
  exact ⟨h.1, h.2.1, h.2.2.1, h.2.2.2.1, h.2.2.2.2⟩
/-- isinstance(x, t), x perhaps an object of an own class, t a built-in type that no such object is of -/
def fIsiO (cs : List Addr) (ds : List D) (S : Sto) : Res D := match ds with
  | [d, .ty n] => match clsAt S d with
    | some A => if A ∈ cs then .ok (.bl false) S else .bad
    | none => fIsi [d, .ty n] S
  | _ => .bad
def IsiO (K : PySem.W.Frag) (cs : List Addr) (n : String) : Prop := ∀ C ∈ cs, IsC K C ∧ PySem.W.kitOne K (.ref C) (.type n) = some false
def fIsiOn (cs : List Addr) (n : String) (ds : List D) (S : Sto) : Res D := match ds with
  | [d, .ty n'] => if n' = n then fIsiO cs [d, .ty n] S else .bad
  | _ => .bad
theorem k_isiO {X : Cx} {cs : List Addr} {n : String} (T : IsiO X.K cs n) : RLK X (rIsi X.K) (fIsiOn cs n) := by
  intro H S F m xs ds Q E h r p
  unfold fIsiOn at p
  split at p
  · rename_i d n'
    by_cases hn : n' = n
    · rw [if_pos hn] at p
      subst hn
      unfold fIsiO at p
      dsimp only at p
      split at p
      · rename_i A e
        by_cases hm : A ∈ cs
        · rw [if_pos hm] at p
          obtain ⟨I, ek⟩ := T A hm
          cases r with
          | cons a b =>
            cases b with
            | cons a2 b2 =>
              cases b2
              cases a2
              cases a with
              | @loc i q l =>
                unfold clsAt at e
                dsimp only at e
                cases es : S[i]? with
                | none => rw [es] at e; cases e
                | some o =>
                  rw [es] at e
                  cases o with
                  | ins C2 fs' =>
                    cases e
                    obtain ⟨_, ho, hH, dx, vs, rfl, q⟩ := h.sto _ q _ l es (by intro z; cases z)
                    exact ⟨_, _, _, _, false, rfl, .ty _, .base (.ins hH I.cl I.kc I.kg I.kt I.ko), ek, p _ H F m h (Ext.refl _ _ _) (.bl false)⟩
                  | _ => cases e
              | _ => cases e
        · rw [if_neg hm] at p; exact p.elim
      · exact k_isi H S F m xs _ Q E h r p
    · rw [if_neg hn] at p; exact p.elim
  · exact p.elim
end DL
namespace DL
open PySem PySem.Spec PyProof.Rows L2
theorem de_dic1 {X : Cx} {pos : Pos} {ke ve : Expr} {k : Str} {i : Int} (hk : PE X ke (tC (.str k))) (hv : PE X ve (tC (.int i))) : DE X (.Dict [some ke] [ve] pos) (dK (.dicS [(k, i)])) := by
  refine ⟨fun W tk => ⟨_, pe_disp (pps_cons hk hv pps_nil) rfl rfl (by simp) (show 1 ≤ 15 by decide), fun σ H ρ S F m Q sl h q a n => ?_⟩⟩
  refine ⟨upd_same, [(Sum.inr k, .int i)], rfl, (show 1 ≤ 15 by decide), ?_⟩
  rw [upd_upd]
  exact q _ _ _ m (h.froz n _) (h.frozE n _) (.dicS (show 1 ≤ 100 by decide) upd_same)
end DL

/-! DL: tuples known to have no dict, through +, slices, displays and products. -/
namespace DL
open PySem PySem.Spec PyProof.Rows L2
section
variable {X : Cx}
theorem FzT.sq {K : PySem.W.Frag} {H : Hp} {a : Addr} {vs : List V} (h : FzT H a vs) : SqT K H a vs := by
  obtain ⟨o, h, _⟩ := h
  exact .inl (.inr ⟨o, h⟩)
theorem post_tupZ {mg : Str → Option Value} {K : PySem.W.Frag} {H F : Hp} {m : List Addr} {S : Sto} {Q : VK} {E : XW} {xs : List D} {vs : List V} (h : HSt K H S F m) (r : RepL K F m xs vs) (z : xs.length ≤ sizeLine) (p : Post (Rep K) mg K H F m (.ok (.tupZ xs) S) Q E) :
    ∀ a o, H a = none → o.dict = none → Q (.ref a) (upd H a (.frz o (.tup vs))) := fun a o n hd => p _ _ _ m (h.froz n _) (h.frozE n _) (.tupZ z ⟨o, upd_same, hd⟩ (r.le (h.frozE n _).le))
/-- t + u -/
def rCatZ (K : PySem.W.Frag) : R2 := fun x y H Q => ∃ a b xs ys, x = .ref a ∧ y = .ref b ∧ FzT H a xs ∧ FzT H b ys ∧ xs.length + ys.length ≤ sizeLine ∧
  (xs = [] → Q (.ref b) H) ∧ (xs ≠ [] → ys = [] → Q (.ref a) H) ∧ (xs ≠ [] → ys ≠ [] → ∀ p o, H p = none → o.dict = none → Q (.ref p) (upd H p (.frz o (.tup (xs ++ ys)))))
theorem op_catZ : OpR X (binaryOp .Add) (rCatZ X.K) := by
  intro pins s σ H x y v u Q I rx ry h
  obtain ⟨a, b, xs, ys, rfl, rfl, ha, hb, hz, q0, q1, q2⟩ := h
  cases rx
  cases ry
  obtain ⟨its, r1, p1, _⟩ := I.tuple ha.sq
  obtain ⟨its2, r2, p2, _⟩ := I.tuple hb.sq
  by_cases hx : xs = []
  · subst hx
    cases r1
    exact cat_tup0 p1 p2 ⟨.ref b, H, I, rfl, q0 rfl⟩
  · refine HT.cat_tup p1 p2 (fun z => hx (r1.nil_iff.mp z)) (fun z => ⟨.ref a, H, I, rfl, q1 hx (r2.nil_iff.mp z)⟩) (fun z => ?_) (by rw [← r1.length, ← r2.length]; exact hz)
    have I2 := Inv.laid (t' := s.toks) (a := s.heap.objs.size) (o := .frz { cls := .type "tuple", data := .seq (its ++ its2).toArray } (.tup (xs ++ ys))) I (h' := s.heap.push { cls := .type "tuple", data := .seq (its ++ its2).toArray }) (fun b o e => Heap.get?_push_of_some _ e) (Nat.le_refl _)
      ⟨push_new _ _ _ _ _ _, by rw [List.length_append]; exact hz, _, r1.append r2, PyProof.Rows.IsTup.new _ _⟩
    exact ⟨.ref s.heap.objs.size, _, I2, rfl, q2 hx (fun w => z (r2.nil_iff.mpr w)) _ _ (I.hok.fresh (Nat.le_refl _)) rfl⟩
def fAddZ (x y : D) (S : Sto) : Res D := match x, y with
  | .tupZ xs, .tupZ ys => if xs.length + ys.length ≤ sizeLine then .ok (.tupZ (xs ++ ys)) S else .bad
  | _, _ => .bad
theorem k_addZ : R2K X (rCatZ X.K) fAddZ := by
  intro H S F m x y dx dy Q E h rx ry p
  unfold fAddZ at p
  split at p
  · rename_i xs ys
    split at p
    · rename_i hz
      obtain ⟨a, vs, rfl, h1, r1, z1⟩ := repZ h rx
      obtain ⟨b, ws, rfl, h2, r2, z2⟩ := repZ h ry
      refine ⟨a, b, vs, ws, rfl, rfl, h1, h2, by rw [← r1.length, ← r2.length]; exact hz, fun hv => ?_, fun hv hw => ?_, fun hv hw => ?_⟩
      · subst hv
        cases r1
        exact p _ H F m h (Ext.refl _ _ _) ry
      · subst hw
        cases r2
        rw [List.append_nil] at p
        exact p _ H F m h (Ext.refl _ _ _) rx
      · exact post_tupZ h (r1.append r2) (by rw [List.length_append]; exact hz) p
    · exact p.elim
  · exact p.elim
/-- t[lo:hi] -/
def rSlZ : V → Option Int → Option Int → Hp → VK → Prop := fun x lo hi H Q => ∃ a xs, x = .ref a ∧ FzT H a xs ∧
  (HT.sIx xs.length 0 lo = 0 ∧ HT.sIx xs.length xs.length hi = xs.length → Q (.ref a) H) ∧ (¬ (HT.sIx xs.length 0 lo = 0 ∧ HT.sIx xs.length xs.length hi = xs.length) → ∀ p o, H p = none → o.dict = none → Q (.ref p) (upd H p (.frz o (.tup (cutV xs lo hi)))))
theorem sl_tupZ : SlR X rSlZ := by
  intro pins s σ H x v vl vu lo hi sl Q I rx hs pl pu h
  obtain ⟨a, xs, rfl, hx, q1, q2⟩ := h
  cases rx
  obtain ⟨its, r, ht, hz⟩ := I.tuple hx.sq
  have hlen : its.toArray.size = xs.length := by rw [List.size_toArray]; exact r.length.symm
  refine ⟨"tuple", _, PyProof.Rows.slot_tuple_getitem.lookup, ht.typeIs, ?_⟩
  by_cases hw : HT.sIx xs.length 0 lo = 0 ∧ HT.sIx xs.length xs.length hi = xs.length
  · exact getItem_tuple_whole ht hs pl pu (by rw [hlen]; exact hw) ⟨.ref a, H, I, rfl, q1 hw⟩
  · refine HT.getItem_tuple_cut ht hs pl pu (by rw [hlen]; exact hw) ?_ (by rw [hlen]; exact hz)
    rw [hlen]
    have I2 := Inv.laid (t' := s.toks) (a := s.heap.objs.size) (o := .frz { cls := .type "tuple", data := .seq ((its.toArray.toList.drop (HT.sIx xs.length 0 lo)).take (HT.sIx xs.length xs.length hi - HT.sIx xs.length 0 lo)).toArray } (.tup (cutV xs lo hi))) I (h' := s.heap.push { cls := .type "tuple", data := .seq ((its.toArray.toList.drop (HT.sIx xs.length 0 lo)).take (HT.sIx xs.length xs.length hi - HT.sIx xs.length 0 lo)).toArray }) (fun b o e => Heap.get?_push_of_some _ e) (Nat.le_refl _)
      ⟨push_new _ _ _ _ _ _, Nat.le_trans (cutV_length xs lo hi) hz, _, (r.drop (HT.sIx xs.length 0 lo)).take (HT.sIx xs.length xs.length hi - HT.sIx xs.length 0 lo), PyProof.Rows.IsTup.new _ _⟩
    exact ⟨.ref s.heap.objs.size, _, I2, rfl, q2 hw _ _ (I.hok.fresh (Nat.le_refl _)) rfl⟩
def fCutZ (d : D) (l u : Option Int) (S : Sto) : Res D := match d with
  | .tupZ xs => .ok (.tupZ (cutD xs l u)) S
  | _ => .bad
def dSlZ (e : Ev D) (lo hi : EvO) : Ev D := fun ρ S => (e ρ S).bind fun d S1 => (lo ρ S1).bind fun l S2 => (hi ρ S2).bind fun u S3 => fCutZ d l u S3
theorem cut_whole {xs : List D} {l u : Option Int} (h : HT.sIx xs.length 0 l = 0 ∧ HT.sIx xs.length xs.length u = xs.length) : cutD xs l u = xs := by
  unfold cutD
  rw [h.1, h.2, List.drop_zero, Nat.sub_zero, List.take_of_length_le (Nat.le_refl _)]
theorem de_slZ {e : Expr} {lo hi : Option Expr} {ge : Ev D} {gl gh : EvO} {p2 pos : Pos} (he : DE X e ge) (hl : DO X lo gl) (hh : DO X hi gh) : DE X (.Subscript e (.Slice lo hi none p2) pos) (dSlZ ge gl gh) := by
  refine ⟨fun W tk => ?_⟩
  obtain ⟨t, pt, rt⟩ := he.ex W tk
  obtain ⟨tl, pl, rl⟩ := hl.ex W tk
  obtain ⟨th, ph, rh⟩ := hh.ex W tk
  refine ⟨_, pe_slice sl_tupZ pt pl ph, fun σ H ρ S F m Q sl h p => ?_⟩
  refine rt σ H ρ S F m _ sl h (Post.bind p fun d S1 v H1 F1 m1 h1 x1 r1 p1 => ?_)
  refine rl σ H1 ρ S1 F1 m1 _ (sl.le x1.le) h1 (Post.bind p1 fun l S2 l' H2 F2 m2 h2 x2 e2 p2 => ?_)
  subst e2
  refine rh σ H2 ρ S2 F2 m2 _ (sl.le (x1.trans x2).le) h2 (Post.bind p2 fun u S3 u' H3 F3 m3 h3 x3 e3 p3 => ?_)
  subst e3
  have r3 := r1.le (x2.trans x3).le
  unfold fCutZ at p3
  split at p3
  · rename_i xs
    obtain ⟨a, vs, rfl, f, q, z⟩ := repZ h3 r3
    refine ⟨a, vs, rfl, f, fun hw => ?_, fun hw => ?_⟩
    · rw [← q.length] at hw
      rw [cut_whole hw] at p3
      exact p3 _ H3 F3 m3 h3 (Ext.refl _ _ _) r3
    · exact post_tupZ h3 (cut_rep q l u) (Nat.le_trans (cut_len _ _ _) z) p3
  · exact p3.elim
/-- (x, y) -/
def tTupZ (t : TA) : TE := fun σ H Q => t σ H fun xs H1 => xs.length ≤ sizeLine ∧ ∀ p o, H1 p = none → o.dict = none → Q (.ref p) (upd H1 p (.frz o (.tup xs)))
theorem pe_tupZ {es : List Expr} {t : TA} {pos : Pos} {x1 : Nat} (h : PA X es t) : PE X (.Tuple es x1 pos) (tTupZ t) := by
  refine ⟨fun pins s σ H Q I hq => ?_⟩
  refine wpAny_Tuple_spliced (thn (h.run pos pins s σ H _ I hq) fun us s1 ⟨xs, H1, I1, r, z, q⟩ => ⟨by rw [← r.length]; exact z, ?_⟩)
  have I2 := Inv.laid (t' := s1.toks) (a := s1.heap.objs.size) (o := .frz { cls := .type "tuple", data := .seq us.toArray } (.tup xs)) I1 (h' := s1.heap.push { cls := .type "tuple", data := .seq us.toArray }) (fun b o e => Heap.get?_push_of_some _ e) (Nat.le_refl _)
    ⟨push_new _ _ _ _ _ _, z, us, r, PyProof.Rows.IsTup.new _ _⟩
  exact ⟨.ref s1.heap.objs.size, _, I2, rfl, q _ _ (I1.hok.fresh (Nat.le_refl _)) rfl⟩
def dTupZ (t : Ev (List D)) : Ev D := fun ρ S => (t ρ S).bind fun ds S1 => if ds.length ≤ sizeLine then .ok (.tupZ ds) S1 else .bad
theorem de_tupZ {es : List Expr} {gs : Ev (List D)} {pos : Pos} {k : Nat} (h : DA X es gs) : DE X (.Tuple es k pos) (dTupZ gs) := by
  refine ⟨fun W tk => ?_⟩
  obtain ⟨t, pa, ra⟩ := h.ex W tk
  refine ⟨_, pe_tupZ pa, fun σ H ρ S F m Q sl h p => ?_⟩
  refine ra σ H ρ S F m _ sl h (Post.bind p fun ds S1 vs H1 F1 m1 h1 x1 r1 p1 => ?_)
  by_cases hz : ds.length ≤ sizeLine
  · rw [if_pos hz] at p1
    exact ⟨by rw [← r1.length]; exact hz, post_tupZ h1 r1 hz p1⟩
  · rw [if_neg hz] at p1; exact p1.elim
end
section
variable {E : XP} {ρ : DEnv} {S : Sto}
theorem wp_addZ {xs ys : List D} {Q : D → Sto → Prop} (h : xs.length + ys.length ≤ sizeLine) (q : Q (.tupZ (xs ++ ys)) S) : WpE E (fAddZ (.tupZ xs) (.tupZ ys) S) Q := by
  unfold fAddZ
  dsimp only
  rw [if_pos h]; exact q
theorem wp_slZ {e : Ev D} {lo hi : EvO} {Q : D → Sto → Prop} : WpE E (dSlZ e lo hi ρ S) Q = WpE E (e ρ S) fun d S1 => WpE E (lo ρ S1) fun l S2 => WpE E (hi ρ S2) fun u S3 => WpE E (fCutZ d l u S3) Q := by
  unfold dSlZ; rw [wp_bind]; congr 1; funext d S1; rw [wp_bind]; congr 1; funext l S2; rw [wp_bind]
theorem fCutZ_eq {xs : List D} {l u : Option Int} : fCutZ (.tupZ xs) l u S = .ok (.tupZ (cutD xs l u)) S := rfl
theorem wp_tupZ {t : Ev (List D)} {Q : D → Sto → Prop} : WpE E (dTupZ t ρ S) Q = WpE E (t ρ S) fun ds S1 => ds.length ≤ sizeLine ∧ Q (.tupZ ds) S1 := by
  unfold dTupZ
  rw [wp_bind]
  congr 1
  funext ds S1
  by_cases h : ds.length ≤ sizeLine
  · rw [if_pos h]
    exact propext ⟨fun q => ⟨h, q⟩, fun q => q.2⟩
  · rw [if_neg h]
    exact propext ⟨fun q => q.elim, fun q => absurd q.1 h⟩
end
end DL

/-! DL: sorted of bools. -/
namespace DL
open PySem PySem.Spec PyProof.Rows L2
def leB (p q : Bool) : Bool := !p || q
def sortB (bs : List Bool) : List Bool := bs.mergeSort leB
theorem sortB_perm (bs : List Bool) : (sortB bs).Perm bs := List.mergeSort_perm ..
theorem sortB_sorted (bs : List Bool) : (sortB bs).Pairwise fun p q => leB p q = true :=
  List.pairwise_mergeSort (fun a b c h1 h2 => by cases a <;> cases b <;> cases c <;> simp_all [leB]) (fun a b => by cases a <;> cases b <;> rfl) bs
theorem dataLe_b : PySem.W.dataLe false PyData.bool = leB := by
  rw [PySem.W.dataLe_eq]
  funext a b
  show (!PySem.W.dataLt (.bool b) (.bool a)) = leB a b
  rw [PySem.W.dataLt_bool]
  cases a <;> cases b <;> decide
section
variable {X : Cx}
theorem bl_vals : ∀ {us : List Value} {bs : List Bool}, Vals (bs.map V.bl) us → PySem.W.EachIs (fun v b => v = Value.bool b) us bs
  | [], [], _ => .nil
  | _ :: _, [], h => (by cases h)
  | [], _ :: _, h => (by cases h)
  | u :: us, b :: bs, h => by
    cases h with
    | cons r rs => exact .cons r (bl_vals rs)
theorem vals_bl : ∀ {us : List Value} {bs : List Bool}, PySem.W.EachIs (fun v b => v = Value.bool b) us bs → Vals (bs.map V.bl) us
  | _, _, .nil => Paired.nil
  | _, _, .cons r rs => Paired.cons r (vals_bl rs)
def rSortedB (K : PySem.W.Frag) : List V → Hp → VK → Prop := fun vs H Q => ∃ (a : Addr) (bs : List Bool), vs = [V.ref a] ∧ SqL K H a (bs.map V.bl) ∧ ∀ p, H p = none → Q (.ref p) (upd H p (.lst ((sortB bs).map V.bl)))
theorem cr_sortedB {k : Nat} (ok : XOk X k) : CallR X (.builtin "sorted") (rSortedB X.K) := by
  intro pins s σ H vs us Q I r h
  obtain ⟨a, bs, rfl, hs, q⟩ := h
  obtain ⟨its, rv, hl, hz⟩ := I.list hs
  rw [Vals.ref1 r]
  have hun := ok.room.units
  have e1 := bl_vals rv
  rw [List.length_map] at hz
  refine PySem.W.sorted_data (enc := PyData.bool) (R := fun v b => v = Value.bool b) hl.isList e1 (e1.mono fun v b e => (by rw [e]; exact ⟨[], .bool b⟩)) (PySem.W.AllAlike.of fun b b' => (by simp only [PySem.W.alike])) (PySem.W.Sortable.others fun b => ⟨fun z => (by cases z), fun xs z => (by cases z)⟩) hz (fun b hb => by show X.A.units + 2 + (PyData.bool b).depth < cLine; simp only [PyData.depth]; omega) fun out h1 h2 => ?_
  rw [dataLe_b] at h2
  obtain ⟨ep, he'⟩ := PyProof.Rows.sortedAll_at s.heap its out.toArray
  have hlen : ((sortB bs).map V.bl).length ≤ sizeLine := by
    rw [List.length_map, (sortB_perm bs).length_eq]; exact hz
  exact ⟨.ref _, upd H (s.heap.objs.size + 1) (.lst ((sortB bs).map V.bl)), I.laid (t' := s.toks) (fun _ _ => PyProof.Rows.sortedAll_old) (Nat.le_succ _) ⟨hlen, out, ep, vals_bl h2, he'⟩, rfl, q _ (I.hok.fresh (Nat.le_succ _))⟩
def fSortedB (ds : List D) (S : Sto) : Res (List D) := match ds with
  | [d] => match seqD S d with
    | some (.lst, xs) => match blsOf xs with
      | some bs => .ok ((sortB bs).map .bl) S
      | none => .bad
    | _ => .bad
  | _ => .bad
theorem rep_bls {K : PySem.W.Frag} {F : Hp} {m : List Addr} : ∀ (bs : List Bool), RepL K F m (bs.map .bl) (bs.map V.bl)
  | [] => .nil
  | b :: bs => .cons (.bl b) (rep_bls bs)
theorem k_sortedB : RNK X (rSortedB X.K) fSortedB := by
  intro H S F m xs ds Q E h r p
  unfold fSortedB at p
  split at p
  · cases r with
    | cons a b =>
      cases b
      split at p
      · rename_i ys e1
        obtain ⟨l, vs, rfl, h1, rv, z⟩ := seq_lst h a e1
        split at p
        · rename_i bs e2
          have ev := bls_rep rv e2
          refine ⟨l, bs, rfl, by rw [← ev]; exact .inl (.inl h1), fun q hq => ?_⟩
          refine new_n h (rep_bls _) ?_ p q hq
          rw [List.length_map, (sortB_perm bs).length_eq]
          have := rv.length
          rw [ev, List.length_map] at this
          omega
        · exact p.elim
      · exact p.elim
  · exact p.elim
end
theorem wp_sortB {E : XP} {S : Sto} {bs : List Bool} {Q : List D → Sto → Prop} (q : Q ((sortB bs).map .bl) S) : WpE E (fSortedB [.lst (bs.map .bl)] S) Q := by
  unfold fSortedB
  dsimp only [seqD]
  rw [bls_of]
  exact q
end DL

/-! DL: products of tuples known to have no dict. -/
namespace DL
open PySem PySem.Spec PyProof.Rows L2
section
variable {X : Cx}
/-- t * k, the object told -/
def rRepZ : R2 := fun x y H Q => ∃ a n vs, x = .ref a ∧ y = .int n ∧ FzT H a vs ∧ vs ≠ [] ∧ 2 ≤ n ∧ n ≤ 1000 ∧ vs.length ≤ 1000 ∧ ∀ b o, H b = none → o.dict = none → Q (.ref b) (upd H b (.frz o (.tup (List.replicate n.toNat vs).flatten)))
theorem op_repZ : OpR X (binaryOp .Mult) rRepZ := by
  intro pins s σ H x y v u Q I hx hy h
  obtain ⟨a, n, vs, rfl, rfl, hz, ne, n2, n3, hlen, q⟩ := h
  cases hx
  obtain ⟨tk, rfl⟩ := hy
  obtain ⟨ws, rv, ⟨⟨cls, dd, data, sl⟩, hob, hcl, m, hda⟩, hsz⟩ := I.tuple hz.sq
  simp only at hcl hda
  subst hcl hda
  have el : ws.length = vs.length := rv.length.symm
  have wne : ws ≠ [] := fun z => ne (by
    rw [z] at el
    exact List.eq_nil_of_length_eq_zero el.symm)
  have emp : ws.toArray.isEmpty = false := by
    match ws, wne with
    | [], z => exact absurd rfl z
    | _ :: _, _ => rfl
  have size0 : ws.toArray.size = vs.length := by rw [List.size_toArray, el]
  have room : ((ws.toArray.size : Nat) : Int) * n ≤ 1000000 := by
    rw [size0]
    have z : ((vs.length : Nat) : Int) * n ≤ 1000 * n := Int.mul_le_mul_of_nonneg_right (by omega) (by omega)
    omega
  have fits : ∀ l : Nat, l ≤ 1000 → n.toNat * l ≤ sizeLine := fun l hl => by
    have z : n.toNat * l ≤ 1000 * 1000 := Nat.mul_le_mul (by omega) hl
    rw [sizeLine_eq]; omega
  have d0 : (decide (n < -(2 ^ 63)) || decide (n ≥ 2 ^ 63)) = false := by simp; omega
  have d1 : (ws.toArray.isEmpty || n == 1) = false := by rw [emp]; simp; omega
  have d2 : (decide (n ≤ 0) || ws.toArray.isEmpty) = false := by rw [emp]; simp; omega
  have d4 : Builtin.Tuple.tupleTooMany (((ws.toArray.size : Nat) : Int) * n) = false := by
    show decide _ = false
    rw [sizeLine_eq]
    exact decide_eq_false fun z => (by omega)
  have hfl : (List.replicate n.toNat ws).flatten.length ≤ sizeLine := by rw [len_rep, el]; exact fits _ hlen
  have hbig : ((List.replicate n.toNat ws).flatten.toArray).size ≤ sizeLine := by rw [List.size_toArray]; exact hfl
  have mul := tuple_mulW a ws.toArray m dd sl n tk d0 d1 d2 (by omega) d4 (by rw [size_rep]; exact hbig)
  refine wpAny_binaryOp_repeat_ref (T := "tuple") (U := "int") (by decide) ⟨_, hob, rfl⟩ (fun t' => typeIs_int t' n tk) noFill_tuple_mul F.fills_int_mul F.slot_int_rmul repeat_tuple F.slot_int_index.lookup ?_
  refine call_meets F.slot_int_rmul (typeIs_int s n tk) F.entry_int_rmul (F.args_int_rmul_2 _ _) (int_rmul_tuple n tk a ws.toArray m dd sl) ⟨hob, rfl, ⟨_, hob, rfl⟩, ?_⟩
  refine call_meets F.slot_tuple_mul ⟨_, hob, rfl⟩ F.entry_tuple_mul (F.args_tuple_mul_2 _ _) mul ⟨hob, ?_⟩
  rw [size_rep]
  have I2 := Inv.laid (t' := s.toks) (a := s.heap.objs.size) (o := .frz { cls := .type "tuple", data := .seq (List.replicate n.toNat ws).flatten.toArray } (.tup (List.replicate n.toNat vs).flatten)) I (h' := s.heap.push { cls := .type "tuple", data := .seq (List.replicate n.toNat ws).flatten.toArray }) (fun b o e => Heap.get?_push_of_some _ e) (Nat.le_refl _)
    ⟨push_new _ _ _ _ _ _, by rw [len_rep]; exact fits _ hlen, _, rv.rep n.toNat, PyProof.Rows.IsTup.new _ _⟩
  exact ⟨.ref s.heap.objs.size, _, I2, rfl, q _ _ (I.hok.fresh (Nat.le_refl _)) rfl⟩
def fMulZ (x y : D) (S : Sto) : Res D := match x, y with
  | .tupZ xs, .int n => if xs ≠ [] ∧ 2 ≤ n ∧ n ≤ 1000 ∧ xs.length ≤ 1000 then .ok (.tupZ (List.replicate n.toNat xs).flatten) S else .bad
  | _, _ => .bad
theorem k_mulZ : R2K X rRepZ fMulZ := by
  intro H S F m x y dx dy Q E h rx ry p
  unfold fMulZ at p
  split at p
  · rename_i xs n
    split at p
    · rename_i hc
      obtain ⟨a, vs, rfl, h1, r1, z1⟩ := repZ h rx
      cases ry
      refine ⟨a, _, vs, rfl, rfl, h1, (fun z => by subst z; cases r1; exact hc.1 rfl), hc.2.1, hc.2.2.1, by rw [← r1.length]; exact hc.2.2.2, post_tupZ h (repL_rep r1 _) ?_ p⟩
      rw [len_rep]
      have z : n.toNat * xs.length ≤ 1000 * 1000 := Nat.mul_le_mul (by omega) hc.2.2.2
      rw [sizeLine_eq]; omega
    · exact p.elim
  · exact p.elim
end
theorem fMulZ_eq {xs : List D} {n : Int} {S : Sto} (h : xs ≠ [] ∧ 2 ≤ n ∧ n ≤ 1000 ∧ xs.length ≤ 1000) : fMulZ (.tupZ xs) (.int n) S = .ok (.tupZ (List.replicate n.toNat xs).flatten) S := by
  unfold fMulZ
  dsimp only
  rw [if_pos h]
/-- a den that says nothing: where a recursion's steps are used up -/
theorem fnG_bad {P : Program} {w : World} {K : PySem.W.Frag} {mg : Str → Option Value} {base : Heap} {k n : Nat} {f : Addr} : FnG P w K mg base k f n fun _ _ => .bad := ⟨fun _ _ _ _ _ _ _ _ _ _ _ _ _ _ _ _ _ _ _ p => p.elim⟩
end DL

/-! DL: xs != [], whatever stands in xs. -/
namespace DL
open PySem PySem.Spec PyProof.Rows L2
section
variable {prog : Program} {w : World} {A : Around} {E : Value → Shared → Prop} {R : Result → Shared → Prop}
theorem list_neZ {l b : Addr} {its its2 : Array Value} {n n2 : Nat} {dd dd2 : Option Addr} {sl sl2 : Array (Option Value)} (hne : (its.size != its2.size) = true) {s : Shared} (hl : s.heap.get? l = some { cls := .type "list", dict := dd, data := .seq its n, slots := sl })
    (hb : s.heap.get? b = some { cls := .type "list", dict := dd2, data := .seq its2 n2, slots := sl2 }) (fin : R (.ok (.ret (.bool true))) s) :
    wpAny (model prog w) A.in1 (Builtin.«list.__ne__» ⟨[.ref l, .ref b], []⟩) (GQ.FinOf prog w A R) (fun e s' => R (.error e) s') s := by
  obtain ⟨hp, g, d, tk, os⟩ := s
  have f3 := AutoSeq1.sub_list_list
  wp_walk using AutoSeq1.wpAny_loadPart' hl, AutoSeq1.wpAny_loadPart' hb
  exact fin
theorem rc_neZ {l b : Addr} {its its2 : Array Value} {n n2 : Nat} {dd dd2 : Option Addr} {sl sl2 : Array (Option Value)} {Q : Value → Shared → Prop} (hu : A.units < cLine) (hne : (its.size != its2.size) = true) {s : Shared} (hl : s.heap.get? l = some { cls := .type "list", dict := dd, data := .seq its n, slots := sl })
    (hb : s.heap.get? b = some { cls := .type "list", dict := dd2, data := .seq its2 n2, slots := sl2 }) (q : Q (.bool true) s) : wpAny (model prog w) A (richCompare .NotEq (.ref l) (.ref b)) Q E s := by
  refine wpAny_richCompare_same_room (op := .NotEq) ⟨_, hl, rfl⟩ ⟨_, hb, rfl⟩ F.slot_list_ne (GQ.call_here F.slot_list_ne ⟨_, hl, rfl⟩ F.entry_list_ne (F.args_list_ne_2 _ _) ?_) hu
  exact list_neZ (R := wants (fun v s' => v ≠ .notImplemented ∧ Q v s') E) hne hl hb ⟨(fun x => nomatch x), q⟩
end
section
variable {X : Cx}
def rNe0 (K : PySem.W.Frag) : R2 := fun x y H Q => ∃ a b xs, x = .ref a ∧ y = .ref b ∧ SqL K H a xs ∧ SqL K H b [] ∧ Q (.bl (!xs.isEmpty)) H
theorem op_ne0 (hu : X.A.units + 64 < cLine) : OpR X (compareOp .NotEq) (rNe0 X.K) := by
  intro pins s σ H x y v u Q I hx hy h
  obtain ⟨a, b, xs, rfl, rfl, ha, hb, q⟩ := h
  cases hx
  cases hy
  obtain ⟨its, r1, p1, _⟩ := I.list ha
  obtain ⟨its2, r2, p2, _⟩ := I.list hb
  obtain ⟨⟨cls, dd, dt, sl⟩, n, e, c1, c2, c3⟩ := p1
  obtain ⟨⟨cls', dd', dt', sl'⟩, n', e', c1', c2', c3'⟩ := p2
  simp only at c1 c2 c3 c1' c2' c3'
  subst c1 c3 c1' c3'
  cases r2
  cases xs with
  | nil =>
    cases r1
    refine SeqAt.compareNe_shaped (da := .list []) (db := .list []) (Reads.list e rfl rfl .nil) (Reads.list e' rfl rfl .nil) (by decide) (by decide) hu ⟨.bl _, H, I, rfl, ?_⟩
    have : (!PyData.eqv (.list []) (.list [])) = false := by simp [PyData.eqv, PyData.eqvAll]
    rw [this]; exact q
  | cons z zs =>
    cases r1 with
    | @cons _ w _ ws rw' rs =>
      show wpAny (model X.prog X.w) X.A (richCompare .NotEq (.ref a) (.ref b)) (EP X pins σ Q) X.xe s
      exact rc_neZ (by omega) (by simp) e e' ⟨.bl _, H, I, rfl, q⟩
theorem mono_ne0 {K : PySem.W.Frag} : ∀ x y H (Q Q' : VK), (∀ v H', Q v H' → Q' v H') → rNe0 K x y H Q → rNe0 K x y H Q' := fun _ _ _ _ _ k ⟨a, b, xs, h1, h2, h3, h4, q⟩ => ⟨a, b, xs, h1, h2, h3, h4, k _ _ q⟩
def fNe0 (x y : D) (S : Sto) : Res Bool := match seqD S x, y with
  | some (.lst, xs), .lst [] => .ok (!xs.isEmpty) S
  | _, _ => .bad
theorem k_ne0 : RCK X (rNe0 X.K) fNe0 := by
  intro H S F m x y dx dy Q E h rx ry p
  unfold fNe0 at p
  split at p
  · rename_i xs e1
    obtain ⟨a, vs, rfl, h1, rv, z⟩ := seq_lst h rx e1
    obtain ⟨b, ws, rfl, h2, rw', z2⟩ := seq_lst h ry (show seqD S (.lst []) = some (.lst, []) from rfl)
    cases rw'
    refine ⟨a, b, vs, rfl, rfl, .inl (.inl h1), .inl (.inl h2), _, rfl, ?_⟩
    have e : vs.isEmpty = xs.isEmpty := by
      cases rv <;> rfl
    exact p _ H F m h (Ext.refl _ _ _) (by rw [e])
  · exact p.elim
end
theorem fNe0_lst {xs : List D} {S : Sto} : fNe0 (.lst xs) (.lst []) S = .ok (!xs.isEmpty) S := rfl
end DL

/-! DL: list + list as a new list. -/
namespace DL
open PySem PySem.Spec PyProof.Rows L2
def fAddN (x y : D) (S : Sto) : Res (List D) := match seqD S x, seqD S y with
  | some (.lst, xs), some (.lst, ys) => if xs.length + ys.length ≤ sizeLine then .ok (xs ++ ys) S else .bad
  | _, _ => .bad
def dAddN (a b : Ev D) : Ev (List D) := fun ρ S => (a ρ S).bind fun x S1 => (b ρ S1).bind fun y S2 => fAddN x y S2
section
variable {X : Cx} {pos : Pos} {a b : Expr} {ga gb : Ev D}
theorem dn_add (ha : DE X a ga) (hb : DE X b gb) : DN X (.BinOp a .Add b pos) (dAddN ga gb) := by
  refine ⟨fun W tk => ?_⟩
  obtain ⟨ta, pa, ra⟩ := ha.ex W tk
  obtain ⟨tb, pb, rb⟩ := hb.ex W tk
  refine ⟨_, pe_op op_cat pa pb, fun σ H ρ S F m Q sl h p => ?_⟩
  refine ra σ H ρ S F m _ sl h (Post.bindN p fun d S1 v H1 F1 m1 h1 x1 r1 p1 => ?_)
  refine rb σ H1 ρ S1 F1 m1 _ (sl.le x1.le) h1 (Post.bindN p1 fun d2 S2 v2 H2 F2 m2 h2 x2 r2 p2 => ?_)
  unfold fAddN at p2
  split at p2
  · rename_i xs ys e1 e2
    split at p2
    · rename_i hz
      obtain ⟨l, vs, rfl, g1, s1, _⟩ := seq_lst h2 (r1.le x2.le) e1
      obtain ⟨l2, ws, rfl, g2, s2, _⟩ := seq_lst h2 r2 e2
      refine ⟨l, l2, vs, ws, rfl, rfl, g1, g2, by rw [← s1.length, ← s2.length]; exact hz, fun q hq => ?_⟩
      obtain ⟨h3, x3⟩ := h2.lay hq (.lst (vs ++ ws))
      exact p2 q (vs ++ ws) _ F2 m2 h3 x3 hq (by
        cases e : F2 q with
        | none => rfl
        | some u => rw [h2.fz q u e] at hq; cases hq) (fun z => h2.dom q z hq) upd_same (s1.append s2) (by rw [List.length_append]; exact hz)
    · exact p2.elim
  · exact p2.elim
end
section
variable {EX : XP} {S : Sto}
theorem wp_addN {ρ : DEnv} {a b : Ev D} {Q : List D → Sto → Prop} : WpE EX (dAddN a b ρ S) Q = WpE EX (a ρ S) fun x S1 => WpE EX (b ρ S1) fun y S2 => WpE EX (fAddN x y S2) Q := by
  unfold dAddN
  rw [wp_bind]
  refine congrArg _ (funext fun x => funext fun S1 => ?_)
  rw [wp_bind]
theorem wp_fAddN {n : Nat} {xs ys : List D} {Q : List D → Sto → Prop} (e : S[n]? = some (.lst xs)) (h : xs.length + ys.length ≤ sizeLine) (q : Q (xs ++ ys) S) : WpE EX (fAddN (.loc n) (.lst ys) S) Q := by
  have e2 : seqD S (.loc n) = some (.lst, xs) := by rw [seqD_loc, e]
  have e3 : fAddN (.loc n) (.lst ys) S = .ok (xs ++ ys) S := by
    unfold fAddN
    simp only [e2]
    show (if xs.length + ys.length ≤ sizeLine then Res.ok (xs ++ ys) S else Res.bad) = _
    rw [if_pos h]
  rw [e3]
  exact q
end
end DL

/-! DL: own classes straight over LookupError, with an __init__ that keeps one value. -/
namespace DL
open PySem PySem.Spec PyProof.Rows L2
section
open Builtin Builtin.ObjectAttr PySem.HandSPX PySem.W PySem.Calls
abbrev lkT : List Value := [.type "LookupError", .type "Exception", .type "BaseException", .type "object"]
theorem lk_has (self : Value) (Ca : Addr) : refuseLoop self "__setattr__" (.ref Ca :: lkT) = pure () := by
  rw [refuseLoop_ref]
  exact PySem.F.store_LookupError.passes self
theorem lk_osa {pr : Program} {wo : World} {Ar : Around} {Rr : Result → Shared → Prop} {hh : Heap} {gg : Array GenState} {dd : Drawn} {tt : Nat} {oo : OsState}
    {Kf : W.Frag} {fld : Str} {tok : Tok} {val : Value} {xa Ca : Addr} {fl : Array Value} {cdt : ClassData}
    (KI : Kf.In hh) (hat : hh.get? xa = some { cls := .ref Ca, data := .fields fl }) (kcl : W.clsIn Kf Ca = some cdt) (kmro : cdt.mro = .ref Ca :: lkT) (kd : cdt.hasDict = true) (kno : W.findIn Kf (.ref Ca) fld = some none)
    (post : ∀ h2 tk2 dx, (∀ b o, b ≠ xa → hh.get? b = some o → h2.get? b = some o) → hh.objs.size ≤ dx → dx ≠ xa → h2.get? xa = some { cls := .ref Ca, dict := some dx, data := .fields fl } →
      h2.Ns1 dx (fun y => if y = fld then some val else none) → Rr (.ok (.ret .none)) ⟨h2, gg, dd, tk2, oo⟩) :
    codeAny (model pr wo) Ar (.call (.builtin "object.__setattr__") ⟨[.ref xa, .str fld tok, val], []⟩) Rr ⟨hh, gg, dd, tt, oo⟩ := by
  have II : W.InstAt hh xa { cls := .ref Ca, data := .fields fl } Ca none := ⟨hat, rfl, rfl, trivial⟩
  have SF := PySem.F.store_object
  have hem : cdt.mro.isEmpty = false := by rw [kmro]; rfl
  have hobj : cdt.mro.contains (.type "object") = true := by rw [kmro, List.contains_cons, show lkT.contains (.type "object") = true by decide +kernel, Bool.or_true]
  have xne : xa ≠ hh.objs.size := Nat.ne_of_lt (Heap.lt_size hat)
  have isob : W.Looks (model pr wo) hh (isInstance (.ref xa) (.type "object")) true := II.type.andThen (W.looks_mroIn KI (by unfold W.mroIn; rw [kcl, Option.bind_some, if_neg (by rw [hem]; decide), hobj]))
  refine codeAny_call_builtin SF.slot.plain SF.entry (@W.check_slot (model pr wo) _ _ ⟨hh, gg, dd, tt, oo⟩ "object.__setattr__" "object" "__setattr__" (.ref xa) [.str fld tok, val] [] _ SF.kind SF.split isob (SF.args (.ref xa) (.str fld tok) val) ?_)
  have lm : W.Looks (model pr wo) hh (mroOf (.ref Ca)) cdt.mro := (W.looks_clsIn KI kcl).andThen .now
  have lt : W.Looks (model pr wo) hh (storeTaker? none) none := .now
  have lc : W.Looks (model pr wo) hh (classData Ca) cdt := W.looks_clsIn KI kcl
  rw [W.osa_eq, refuse_eq]
  refine wpAny_bind (wpAny_bind (II.type.at (wpAny_bind (lm.at ?_))))
  rw [kmro, lk_has]
  refine wpAny_pure (wpAny_bind (II.type.at (wpAny_bind ((W.looks_findIn KI kno).at (wpAny_bind (lt.at ?_))))))
  show wpAny _ _ (storeInOwnDict (.ref xa) (.ref Ca) (.str fld tok) fld val false) _ _ _
  obtain ⟨nm, bs, mro, ns, qn, hd, sn, sb, ab, col, del⟩ := cdt
  dsimp only at kd
  subst kd
  unfold storeInOwnDict ownDictForStores
  repeat (first | with_reducible refine PySem.HandSPX.store_in_new ?_ ?_ | with_reducible refine wpAny_loadPart_at hat ?_ | with_reducible refine lc.at ?_ | wp_step)
  · exact ⟨_, #[], _, (Heap.get?_update_ne _ _ _ _ xne.symm).trans (Heap.get?_push_at rfl rfl), rfl, fun e he => absurd he (by simp), fun _ => rfl⟩
  · intro h2 tk2 hn2 hs2
    have hx2 : (hh.push { cls := .type "dict", data := .dict #[] }).get? xa = some { cls := .ref Ca, data := .fields fl } := Heap.get?_push_of_some _ hat
    refine post h2 tk2 hh.objs.size (fun b o hb ho => ?_) (Nat.le_refl _) xne.symm ?_ hn2
    · exact (hs2.2 b (Nat.ne_of_lt (Heap.lt_size ho))).trans ((Heap.get?_update_ne _ _ _ _ hb).trans (Heap.get?_push_of_some _ ho))
    · exact (hs2.2 xa xne).trans (Heap.get?_update_self _ hx2 rfl)
end
/-- what the written part says of such a class -/
structure OlkC (K : PySem.W.Frag) (C : Addr) : Prop where
  kls : ∃ nm qn N bs sn sb ab col dl k0 k1 k2 k3 k5, K.lookup C = some (excClassObj nm qn C N bs lkT true sn sb ab col dl k0 k1 k2 k3 k5 "LookupError.__new__")
  sat : PySem.W.findIn K (.ref C) "__setattr__" = some (some (.builtin "object.__setattr__"))
  sub : PySem.W.subIn K (.ref C) (.type "BaseException") = some true
  tyc : PySem.W.typeIn K (.ref C) = some (.type "type")
  kpc : PySem.W.keepIn K (.ref C) = true
section
variable {X : Cx} {pins : List (Addr × Obj)} {σ : L2.St} {H : Hp} {s : Shared} {a C dx : Addr} {f : Str} {y : V} {u : Value} {Q : Unit → Shared → Prop} {E : Value → Shared → Prop} {A : Around}
theorem lst_new (T : OlkC X.K C) (I : Inv X pins σ H s) (ea : H a = some (exo a C Option.none)) (hno : PySem.W.findIn X.K (.ref C) f = some Option.none) (ry : RelV y u)
    (post : ∀ dx s2, H dx = Option.none → dx ≠ a → Inv X pins σ (upd (upd H dx (exd dx [(f, y)])) a (exo a C (some dx))) s2 → Q () s2) : wpAny (model X.prog X.w) A (setAttr (.ref a) f u) Q E s := by
  obtain ⟨nm, qn, N, bs, sn, sb, ab, col, dl, k0, k1, k2, k3, k5, hC⟩ := T.kls
  have hcl : PySem.W.clsIn X.K C = some { name := nm, bases := bs, mro := .ref C :: lkT, ns := N, qualname := qn, hasDict := true, slotNames := sn, subclasses := sb, abstract := ab, collection := col, hasDel := false } := by unfold PySem.W.clsIn; rw [hC] <;> rfl
  obtain ⟨t1, ho⟩ := exo_at I.hok ea
  obtain ⟨hh, gg, dd, tt, oo⟩ := s
  refine PySem.W.set_plain I.kIn (ox := { cls := .ref C, dict := Option.none, data := .fields #[.ref t1, .none, .none, .none, .bool false, .none] }) (od := Option.none) ⟨ho, rfl, rfl, trivial⟩ T.sat ?_
  refine lk_osa I.kIn ho hcl rfl rfl hno (fun h2 tk2 dx k dn dne hx hn => ?_)
  have hnd : H dx = Option.none := I.hok.fresh dn
  have nd : ∀ {b : Addr} {o : Obj}, hh.get? b = some o → b ≠ dx := fun {b o} q => Nat.ne_of_lt (Nat.lt_of_lt_of_le (Heap.lt_size q) dn)
  have na : ∀ {b : Addr}, H b = Option.none → b ≠ a := fun {b} n z => by
    rw [z, ea] at n
    cases n
  have Un1 : Un X.fs [] H (upd (upd H dx (exd dx [(f, y)])) a (exo a C (some dx))) hh h2 := {
    keep := fun b o z n _ _ => k b o (na n) z
    slot := fun b o z n _ _ => ⟨o.slots, k b o (na n) z⟩
    free := fun b o z n _ => by rw [upd_ne (na n), upd_ne (nd z)]; exact n
    there := fun b o z _ => by
      by_cases hb : b = a
      · exact ⟨_, by rw [hb]; exact hx⟩
      · exact ⟨o, k b o hb z⟩
    tups := fun b xs z => by rw [upd_ne (at_ne ea z exo_tup), upd_ne (ne_of_none z hnd)]; exact z
    frzs := fun b o v z => by rw [upd_ne (at_ne ea z exo_frz), upd_ne (ne_of_none z hnd)]; exact z
    tbls := fun b ps z => ⟨#[], by rw [upd_ne (at_ne ea z exo_tbl), upd_ne (ne_of_none z hnd), z]; simp⟩ }
  refine post dx _ hnd dne (I.un (t' := tk2) Un1 fun b o z => ?_)
  by_cases hb : b = a
  · subst hb
    rw [upd_same] at z
    cases z
    exact exo_ok hx
  · rw [upd_ne hb] at z
    by_cases hd : b = dx
    · subst hd
      rw [upd_same] at z
      cases z
      exact exd_ok hn (relO_put (fs := []) ry fun g => True.intro)
    · rw [upd_ne hd] at z
      refine (I.hok b o z).stay (fun c v hc z => k c v ?_ z) (fun c hc => ?_) fun c xs hc => ?_
      · rcases hc with hc | hc
        · rw [hc]; exact hb
        · exact at_ne ea hc exo_own
      · rw [upd_ne (at_ne ea hc exo_own), upd_ne (ne_of_none hc hnd)]; exact hc
      · rw [upd_ne (at_ne ea hc exo_tup), upd_ne (ne_of_none hc hnd)]; exact hc
end
section
variable {X : Cx} {o e : Expr} {es : List Expr} {to te : TE} {ta : TA} {f x qual : Str} {p p' p1 p2 p3 p4 pos pos' : Pos} {C fI : Addr} {fd : FuncData} {ps : List Str} {k : Nat}
def tLst1 (K : PySem.W.Frag) (f : Str) (to te : TE) : TS := fun D σ H => te σ H fun y H1 => to σ H1 fun x H2 => ∃ a C : Addr, x = .ref a ∧ OlkC K C ∧ PySem.W.findIn K (.ref C) f = some Option.none ∧
  H2 a = some (exo a C Option.none) ∧ ∀ dx, H2 dx = Option.none → dx ≠ a → D.nx σ (upd (upd H2 dx (exd dx [(f, y)])) a (exo a C (some dx)))
theorem ps_lst1 (ho : PE X o to) (he : PE X e te) (hs : swapsWith e (some (.Attribute o f p')) pos.line X.env = pure false := by rfl) : PS X (.Assign [.Attribute o f p'] e pos) (tLst1 X.K f to te) := by
  refine ⟨fun pins s σ H D I h => ?_⟩
  refine plainObj_wpAny_Assign_Attribute (thn (he.run pins s σ H _ I h) fun v s1 ⟨y, H1, I1, r1, q1⟩ => thn (ho.run pins s1 σ H1 _ I1 q1) fun u s2 hz => ?_) hs
  obtain ⟨x, H2, I2, r2, a, C, rfl, T, hno, ea, q⟩ := hz
  obtain rfl : u = Value.ref a := r2
  exact lst_new T I2 ea hno r1 fun dx s2 n ne J => ⟨σ, _, J, q dx n ne⟩
/-- C(e, ..) -/
theorem pmk_olk {CX : CXT} {sp : Sp} {ds : List Value} {dvs : List V} (T : OlkC X.K C) (ic : PySem.W.findIn X.K (.ref C) "__init__" = some (some (.ref fI))) (ti : PySem.W.typeIn X.K (.ref fI) = some (.type "function"))
    (F1 : FnOk X.prog X.w X.K X.mg X.base CX k fI fd ps sp) (hr : Room (k + 1) X.A) (hb : Binds X.K fd ps ds) (hd : Vals dvs ds) (hx : Passes CX X (fun _ _ _ => False)) (hg : Gl X x) (hm : X.mg x = some (.ref C)) (ha : PA X (e :: es) ta)
    (hdb : (x == ("__debug__" : Str)) = false := by decide) (he : starEach (e :: es) X.env = (false, eval e X.env) :: starEach es X.env := by rfl) (hpl : (backTo pos (starEach es X.env)).any (·.1) = false := by rfl) :
    PMk X (.Call (.Name x p) (e :: es) [] pos) (tMkO C sp dvs ta) := by
  intro pins s σ H Q I h
  obtain ⟨nm, qn, N, bs, sn, sb, ab, col, dl, k0, k1, k2, k3, k5, hC⟩ := T.kls
  refine wpAny_Call_Name_kw (ld_glob I hg hm ?_ hdb)
  refine PySem.W.callWith_K (h₀ := X.base) I.ok.mod.kin T.kpc (thn (ha.run pos pins s σ H _ I h) fun us s1 hz0 => ?_) he hpl
  obtain ⟨vs, H1, I1, r1, hz, q1⟩ := hz0
  refine ⟨I1.kIn, ?_⟩
  show wpAny _ _ (call (.ref C) us) _ _ _
  obtain ⟨hh, gg, dd, tt, oo⟩ := s1
  have sz : hh.objs.size ≤ hh.objs.size + 1 := Nat.le_succ _
  have hn : H1 (hh.objs.size + 1) = Option.none := I1.hok.fresh sz
  have hq := q1 (hh.objs.size + 1) hn
  have kk : ∀ b o, hh.get? b = some o → ((hh.push (PySem.W.kdv_tup us)).push (PySem.HandSPX.excO C hh.objs.size)).get? b = some o := fun b o z => Heap.get?_push_of_some _ (Heap.get?_push_of_some _ z)
  have hget : ((hh.push (PySem.W.kdv_tup us)).push (PySem.HandSPX.excO C hh.objs.size)).get? (hh.objs.size + 1) = some (PySem.HandSPX.excO C hh.objs.size) := by heap_get
  have I2 : Inv X pins σ (upd H1 (hh.objs.size + 1) (exo (hh.objs.size + 1) C Option.none)) ⟨(hh.push (PySem.W.kdv_tup us)).push (PySem.HandSPX.excO C hh.objs.size), gg, dd, tt, oo⟩ :=
    I1.laid (t' := tt) (a := hh.objs.size + 1) (o := exo (hh.objs.size + 1) C Option.none) (h' := (hh.push (PySem.W.kdv_tup us)).push (PySem.HandSPX.excO C hh.objs.size)) kk sz (exo_ok hget)
  have r2 : Vals (V.ref (hh.objs.size + 1) :: (vs ++ dvs)) (Value.ref (hh.objs.size + 1) :: (us ++ ds)) := .cons rfl (r1.append hd)
  have hl : (Value.ref (hh.objs.size + 1) :: us ++ ds).length = ps.length := by
    have z := r2.length
    rw [F1.len _ _ _ _ hq] at z
    exact z.symm
  have hus : us.length ≤ sizeLine := by
    rw [← Paired.length r1]
    exact Nat.le_trans hz (by rw [sizeLine_eq]; omega)
  refine wpAny_call (PySem.HandSPX.call_own PySem.F.excBase_LookupError (fun Y => rfl) (I1.kIn _ _ hC) (PySem.W.looks_findIn I1.kIn ic) (fun self => PySem.W.bind_fn I1.kIn self ti) hus
    (codeAny_mono (F1.run _ X.stack _ _ ⟨Value.ref (hh.objs.size + 1) :: us, []⟩ (Value.ref (hh.objs.size + 1) :: (us ++ ds)) _ _ (fun _ _ _ => False) (hr.make C us []) (I2.env0.make C us []) (hb _ (Value.ref (hh.objs.size + 1) :: us) I2.kIn hl) r2 hq) fun r s2 hz2 => ?_))
  cases r with
  | error er => exact hx pins σ _ _ er s2 I2 hz2
  | ok fl =>
    cases fl with
    | ret u =>
      obtain ⟨v, H2, os2, bare2, un2, hok2, rv, ev, d, fs, ea, ed, hd1, q2⟩ := hz2
      subst ev
      obtain ⟨h2, g2, d2, t2, oz⟩ := s2
      exact ⟨rv, mk_end (raises_own T.sub T.tyc) I1 sz kk un2 hok2 os2 bare2 ea ed hd1 q2⟩
    | next => exact False.elim hz2
    | brk => exact False.elim hz2
    | cont => exact False.elim hz2
end
/-- what the text says of such a class -/
structure XLk (P : Program) (w : World) (K : PySem.W.Frag) (mg : Str → Option Value) (base : Heap) (C fI : Addr) (f : Str) : Prop where
  oc : OlkC K C
  ic : PySem.W.findIn K (.ref C) "__init__" = some (some (.ref fI))
  ti : PySem.W.typeIn K (.ref fI) = some (.type "function")
  bd : ∃ fd ps, Binds K fd ps [] ∧ FnOk P w K mg base (L2.CX P w) 1 fI fd ps (spIni C f)
theorem ini_lk {P : Program} {w : World} {K : PySem.W.Frag} {mg : Str → Option Value} {base : Heap} {x qual f : Str} {st : Stmt} {fI C : Addr} {fd : FuncData} {p1 p2 p3 p4 : Pos} (Fn : Fun K x qual st fI fd) (S : FnScope ["self", f] ["self", f] (defScope st)) (oc : OlkC K C) (hno : PySem.W.findIn K (.ref C) f = some Option.none)
    (hb : defBody st = [.Assign [.Attribute (.Name "self" p1) f p2] (.Name f p3) p4])
    (hp : ∀ (cdv : Value) (A : Around) (outer : List PySem.Env) (s : Shared) (H : Hp) (E : XK), PS (cxOf (L2.CX P w) P w K mg base ["self", f] qual (defScope st) fI cdv A outer s H E) (.Assign [.Attribute (.Name "self" p1) f p2] (.Name f p3) p4) (tLst1 K f (tVar 0) (tVar 1))) :
    FnOk P w K mg base (L2.CX P w) 1 fI fd ["self", f] (spIni C f) := by
  refine Fn.okX S (fun vs H Q E h => ?_) fun cdv A outer s H vs Q E hr h => ⟨_, by rw [hb]; exact pss_cons (hp cdv A outer s H E) pss_nil, ?_⟩
  · obtain ⟨a, v, rfl, _⟩ := h; rfl
  · obtain ⟨a, v, rfl, ha, q⟩ := h
    exact ⟨v, rfl, .ref a, rfl, a, C, rfl, oc, hno, ha, q⟩
section
variable {X : Cx} {x f : Str} {p pos pos' apos : Pos} {e : Expr} {es : List Expr} {gs : Ev (List D)} {C fI : Addr} {k : Nat}
theorem ds_raiseL (T : XLk X.prog X.w X.K X.mg X.base C fI f) (ok : XOk X k) (hk : 2 ≤ k) (hg : Gl X x) (hm : X.mg x = some (.ref C)) (ha : DA X (e :: es) gs)
    (hdb : (x == ("__debug__" : Str)) = false := by decide) (he : starEach (e :: es) X.env = (false, eval e X.env) :: starEach es X.env := by rfl) (hpl : (backTo pos (starEach es X.env)).any (·.1) = false := by rfl) :
    DS X (.Raise (some (.Call (.Name x p) (e :: es) [] pos)) Option.none pos') (dRaise C f gs) := by
  refine ⟨fun W tk => ?_⟩
  obtain ⟨ta, pa, ra⟩ := ha.ex W tk
  obtain ⟨fd, ps, hb, F1⟩ := T.bd
  have hr : Room 2 X.A := ok.room.mono hk
  refine ⟨_, ps_raise ok.calm tk (pmk_olk (ds := []) (dvs := []) T.oc T.ic T.ti F1 hr hb .nil (fun _ _ _ _ _ _ _ h => (cxF h).elim) hg hm pa hdb he hpl), fun σ H ρ S F m N sl h q => ?_⟩
  refine ra σ H ρ S F m _ sl h (Post.bindS sl q fun ds S1 vs H1 F1 m1 h1 x1 r1 p1 => ?_)
  match ds, r1, p1 with
  | [d], .cons (v := v) rv .nil, p1 =>
    refine ⟨(show 1 ≤ 1000 by decide), fun a na => ?_⟩
    refine ⟨a, v, rfl, upd_same, fun dx nd ne => ⟨rfl, dx, [(f, v)], upd_same, ?_, ?_, ?_⟩⟩
    · rw [upd_ne ne, upd_same]
    · rw [upd_ne ne] at nd; exact nd
    · rw [upd_ne ne] at nd
      have eH : upd (del (upd (upd (upd H1 a (exo a C Option.none)) dx (exd dx [(f, v)])) a (exo a C (some dx))) a) dx (.xd [(f, v)]) = upd H1 dx (.xd [(f, v)]) := by
        funext b
        by_cases h1 : b = dx
        · rw [h1, upd_same, upd_same]
        · rw [upd_ne h1, upd_ne h1]
          by_cases h2 : b = a
          · rw [h2, del_same, na]
          · rw [del_ne h2, upd_ne h2, upd_ne h1, upd_ne h2]
      rw [eH]
      exact p1 _ _ σ _ _ m1 ((sl.le x1.le).le (h1.frozE nd _).le) (h1.froz nd _) (h1.frozE nd _) ⟨rfl, .inr ⟨dx, v, d, rfl, rfl, upd_same, rv.le (h1.frozE nd _).le⟩⟩
end
end DL

/-! DL: f"{size:>8,}" of a size. -/
namespace DL
open PySem PySem.Spec PyProof.Rows L2
/-- the digits of a number, eight columns wide, with commas -/
def lay8 : List Nat → List Nat
  | [a] => [32, 32, 32, 32, 32, 32, 32, a]
  | [a, b] => [32, 32, 32, 32, 32, 32, a, b]
  | [a, b, c] => [32, 32, 32, 32, 32, a, b, c]
  | [a, b, c, d] => [32, 32, 32, a, 44, b, c, d]
  | [a, b, c, d, e] => [32, 32, a, b, 44, c, d, e]
  | [a, b, c, d, e, f] => [32, a, b, c, 44, d, e, f]
  | [a, b, c, d, e, f, g] => [a, 44, b, c, d, 44, e, f, g]
  | _ => []
def fm8 (x : Int) : Str := ⟨(lay8 ((Nat.toDigits 10 x.natAbs).map Char.toNat)).toArray⟩
theorem parse8 : Builtin.Float.parseFormatSpec (">8," : Str).cps.toList "int" 62 = .ok { fill := 32, align := 62, width := some 8, grouping := some ',' } := by rfl
theorem digits7 {x : Int} (h1 : x ≤ 9999999) (h0 : 1 ≤ x) : 1 ≤ (Nat.toDigits 10 x.natAbs).length ∧ (Nat.toDigits 10 x.natAbs).length ≤ 7 :=
  ⟨tDigits_len_ge 10 _, digits10_le (by decide) (by omega)⟩
section
variable {prog : Program} {w : World} {A : Around} {E : Value → Shared → Prop} {s : Shared}
open Builtin Float
theorem wp_fmt8 {x : Int} {tk : Tok} {Q : Value → Shared → Prop} (h0 : 1 ≤ x) (h1 : x ≤ 9999999)
    (q : Q (.str (fm8 x) (s.toks + 1)) { s with toks := s.toks + 1 + 1 }) : wpAny (model prog w) A (formatField (.int x tk) ">8,") Q E s := by
  have hlog : x.natAbs.log2 < 1920 := by
    by_cases z : x.natAbs = 0
    · rw [z]; decide
    · exact Nat.lt_of_lt_of_le ((Nat.log2_lt z).mpr (show x.natAbs < 2 ^ 24 by omega)) (by decide)
  obtain ⟨d1, d2⟩ := digits7 h1 h0
  show wpAny _ _ (holding [.int x tk] (pyFormat (.int x tk) ">8,")) Q E s
  refine wpAny_holding ?_
  unfold pyFormat
  refine wpAny_bind (wpAny_mkStr ?_ (by decide))
  refine wpAny_bind (m := callSpecial? (.int x tk) (Str.ofString "__format__") [.str ">8," s.toks]) (wpAny_callSpecial?_slot (name := Str.ofString "__format__") (typeIs_int _ x tk) PySem.F.slot_int_format ?_)
  refine wpAny_call (codeAny_call_builtin PySem.F.slot_int_format.plain PySem.F.entry_int_format (PySem.F.slot_int_format.check _ _ _ _ _ _ _ _ (typeIs_int _ x tk) (PySem.F.args_int_format_2 _ _) ?_))
  unfold Builtin.«int.__format__»
  simp only [selfAndOne, noKeywords, Int.intOfSelf, asInt?, asStr?, List.isEmpty_nil, if_true, pure_bind, bind_pure, bind_assoc, Bool.false_eq_true, if_false, show ((">8," : Str).length == 0) = false from by decide,
    show (((">8," : Str).cps.toList.drop 1).any (· ≥ 128) || ((">8," : Str).cps.getD 0 0 ≥ 128 && !([60, 62, 61, 94] : List Nat).contains ((">8," : Str).cps.getD 1 0))) = false by decide, show (Value.str ">8," s.toks == Value.none) = false from rfl]
  refine wpAny_bind (wpAny_typeNameOf (T := "str") (typeIs_str _ _ _) (by decide) fun _ => ?_)
  refine wpAny_bind (wpAny_typeNameOfCut_int ?_)
  simp only [parse8]
  rw [if_pos (by decide)]
  show wpAny _ _ (do let r ← Builtin.overDigitLimit? x; _) _ _ _
  rw [PySem.overDigitLimit_small hlog]
  refine wpAny_bind (wpAny_pure ?_)
  show wpAny _ _ (retStr _) _ _ _
  unfold retStr
  have fin : ∀ z : Str, z = fm8 x → wpAny (model prog w) A.in1 (mkStr z) (fun r s2 => r = .str (fm8 x) (s.toks + 1) ∧ s2 = { s with toks := s.toks + 1 + 1 }) (fun e s2 => E e s2) { s with toks := s.toks + 1 } := fun z hz => by
    rw [hz]
    refine wpAny_mkStr ⟨rfl, rfl⟩ ?_
    rw [sizeLine_eq]
    have hlen : (fm8 x).length ≤ 9 := by
      unfold fm8
      generalize Nat.toDigits 10 x.natAbs = l at d1 d2
      match l, d1, d2 with
      | [_], _, _ => exact (show 8 ≤ 9 by decide)
      | [_, _], _, _ => exact (show 8 ≤ 9 by decide)
      | [_, _, _], _, _ => exact (show 8 ≤ 9 by decide)
      | [_, _, _, _], _, _ => exact (show 8 ≤ 9 by decide)
      | [_, _, _, _, _], _, _ => exact (show 8 ≤ 9 by decide)
      | [_, _, _, _, _, _], _, _ => exact (show 8 ≤ 9 by decide)
      | [_, _, _, _, _, _, _], _, _ => exact (show 9 ≤ 9 by decide)
      | _ :: _ :: _ :: _ :: _ :: _ :: _ :: _ :: _, _, h => exact absurd h (by simp)
    omega
  refine wpAny_bind (m := mkStr _) (wpAny_mono (fin _ ?_) (fun r s2 hr => ?_) fun _ _ z => z)
  · rw [show decide (x < 0) = false by simp; omega]
    unfold fm8
    generalize Nat.toDigits 10 x.natAbs = l at d1 d2
    match l, d1, d2 with
    | [_], _, _ => kernel_rfl
    | [_, _], _, _ => kernel_rfl
    | [_, _, _], _, _ => kernel_rfl
    | [_, _, _, _], _, _ => kernel_rfl
    | [_, _, _, _, _], _, _ => kernel_rfl
    | [_, _, _, _, _, _], _, _ => kernel_rfl
    | [_, _, _, _, _, _, _], _, _ => kernel_rfl
    | _ :: _ :: _ :: _ :: _ :: _ :: _ :: _ :: _, _, h => exact absurd h (by simp)
  · obtain ⟨rfl, rfl⟩ := hr
    refine wpAny_pure ?_
    dsimp only
    refine wpAny_bind (wpAny_isInstance (typeIs_str _ _ _) isSubtype_str_str (wpAny_pure ?_))
    exact q
end
section
variable {X : Cx} {e : Expr} {ge : Ev D}
/-- f"{e:>8,}" -/
def dFmt8 (ge : Ev D) : Ev D := fun ρ S => (ge ρ S).bind fun x S1 => match x with
  | .int i => if 1 ≤ i ∧ i ≤ 9999999 then .ok (.str (fm8 i)) S1 else .bad
  | _ => .bad
theorem fm8_len {i : Int} (h0 : 1 ≤ i) (h1 : i ≤ 9999999) : (fm8 i).length ≤ 9 := by
  obtain ⟨d1, d2⟩ := digits7 h1 h0
  unfold fm8
  generalize Nat.toDigits 10 i.natAbs = l at d1 d2
  match l, d1, d2 with
  | [_], _, _ => exact (show 8 ≤ 9 by decide)
  | [_, _], _, _ => exact (show 8 ≤ 9 by decide)
  | [_, _, _], _, _ => exact (show 8 ≤ 9 by decide)
  | [_, _, _, _], _, _ => exact (show 8 ≤ 9 by decide)
  | [_, _, _, _, _], _, _ => exact (show 8 ≤ 9 by decide)
  | [_, _, _, _, _, _], _, _ => exact (show 8 ≤ 9 by decide)
  | [_, _, _, _, _, _, _], _, _ => exact (show 9 ≤ 9 by decide)
  | _ :: _ :: _ :: _ :: _ :: _ :: _ :: _ :: _, _, h => exact absurd h (by simp)
theorem pe_fmt8 {te : TE} {k : Nat} {p1 p2 p3 p4 : Pos} (he : PE X e te) : PE X (.JoinedStr [.FormattedValue e (-1) (some (.JoinedStr [.Constant (.str ">8,") k p1] p2)) p3] p4) (fun σ H Q => te σ H fun x H1 => ∃ i, x = .int i ∧ 1 ≤ i ∧ i ≤ 9999999 ∧ Q (.str (fm8 i)) H1) := by
  refine pe_joined1 ⟨fun pins s σ H Q I h => ?_⟩
  refine wpAny_FormattedValue_spec (thn (he.run pins s σ H _ I h) fun v s1 hv => ?_)
  obtain ⟨x, H1, I1, r1, i, rfl, h0, h1, q⟩ := hv
  obtain ⟨t, rfl⟩ := r1
  refine wpAny_JoinedStr_one (thn (pe_str.run pins s1 σ H1 (fun z H2 => z = .str ">8," ∧ Q (.str (fm8 i)) H2) I1 ⟨rfl, q⟩) fun u s2 hu => ?_)
  obtain ⟨z, H2, I2, r2, rfl, q2⟩ := hu
  obtain ⟨t2, rfl⟩ := r2
  exact ⟨_, _, rfl, wp_fmt8 h0 h1 ⟨.str (fm8 i), H2, (I2.tok _).tok _, ⟨_, rfl⟩, q2⟩⟩
theorem de_fmt8 {k : Nat} {p1 p2 p3 p4 : Pos} (he : DE X e ge) : DE X (.JoinedStr [.FormattedValue e (-1) (some (.JoinedStr [.Constant (.str ">8,") k p1] p2)) p3] p4) (dFmt8 ge) := by
  refine ⟨fun W tk => ?_⟩
  obtain ⟨te, pe, re⟩ := he.ex W tk
  refine ⟨_, pe_fmt8 pe, fun σ H ρ S F m Q sl h p => ?_⟩
  refine re σ H ρ S F m _ sl h (Post.bind p fun x S1 v H1 F1 m1 h1 x1 r1 p1 => ?_)
  cases r1 with
  | int i =>
    dsimp only at p1
    split at p1
    · rename_i hc
      refine ⟨i, rfl, hc.1, hc.2, p1 _ H1 F1 m1 h1 (Ext.refl _ _ _) (.str _ ?_)⟩
      have := fm8_len hc.1 hc.2
      rw [sizeLine_eq]; omega
    · exact p1.elim
  | _ => exact p1.elim
end
variable {EX : XP}
theorem wp_fm8 {ge : Ev D} {ρ : DEnv} {S : Sto} {Q : D → Sto → Prop} (q : WpE EX (ge ρ S) fun x S1 => ∃ i, x = .int i ∧ 1 ≤ i ∧ i ≤ 9999999 ∧ Q (.str (fm8 i)) S1) : WpE EX (dFmt8 ge ρ S) Q := by
  unfold dFmt8
  rw [wp_bind]
  refine WpE.mp q fun x S1 h => ?_
  obtain ⟨i, rfl, h0, h1, h⟩ := h
  dsimp only
  rw [if_pos ⟨h0, h1⟩]
  exact h
end DL

/-! DL: o[e] that may raise, len(o), str(o), x not in o: by the methods of own classes. -/
namespace DL
open PySem PySem.Spec PyProof.Rows L2
variable {EX : XP}
section
variable {X : Cx} {C f g : Addr} {k j n : Nat} {den : List D → Sto → Res D}
theorem XOk.grd1 (ok : XOk X j) : X.A.in1.guards = some [] := by
  have gg := ok.grd
  first
    | exact gg
    | (simp [Around.in1, Around.deeper, Around.under, Code.guards, Code.isGuard, pushGuards, gg])
theorem XOk.grd2 (ok : XOk X j) : X.A.in1.in1.guards = some [] := by
  have gg := ok.grd1
  first
    | exact gg
    | (simp [Around.in1, Around.deeper, Around.under, Code.guards, Code.isGuard, pushGuards, gg])
theorem run_gA {A : Around} {W : WX} {pins : List (Addr × Obj)} {s : Shared} {σ : L2.St} {H : Hp} {Q : VK} {us : List Value} {vs : List V} {F : Hp} {m : List Addr} {ds : List D} {S : Sto} (G : FnG X.prog X.w X.K X.mg X.base k f n den)
    (hr : Room k A) (grd : A.guards = some []) (e0 : Env0 X.prog X.w X.K X.mg X.base A X.stack s H) (tk : Takes X W) (I : Inv X pins σ H s) (r : Vals vs us) (hn : vs.length = n) (hst : HSt X.K H S F m) (rep : RepL X.K F m ds vs)
    (post : Post (Rep X.K) X.mg X.K H F m (den ds S) Q (fun c d H' => W c d σ H')) : wpAny (model X.prog X.w) A (call (.ref f) us) (EP X pins σ Q) X.xe s :=
  wpAny_call (codeAny_mono (G.run A X.stack s H us vs Q (fun c d H' => W c d σ H') F m ds S hr grd e0 r hn hst rep post) fun z s2 hz => by
    cases z with
    | error u => exact air tk I hz
    | ok fl =>
      cases fl with
      | ret u => exact I.after hz
      | next => exact hz.elim
      | brk => exact hz.elim
      | cont => exact hz.elim)
theorem run_g0 {A : Around} {pins : List (Addr × Obj)} {s : Shared} {σ : L2.St} {H : Hp} {Q : VK} {us : List Value} {vs : List V} {F : Hp} {m : List Addr} {ds : List D} {S : Sto} {E : Value → Shared → Prop} (G : FnG X.prog X.w X.K X.mg X.base k f n den)
    (hr : Room k A) (grd : A.guards = some []) (e0 : Env0 X.prog X.w X.K X.mg X.base A X.stack s H) (I : Inv X pins σ H s) (r : Vals vs us) (hn : vs.length = n) (hst : HSt X.K H S F m) (rep : RepL X.K F m ds vs)
    (post : Post (Rep X.K) X.mg X.K H F m (den ds S) Q (fun _ _ _ => False)) : wpAny (model X.prog X.w) A (call (.ref f) us) (EP X pins σ Q) E s :=
  wpAny_call (codeAny_mono (G.run A X.stack s H us vs Q (fun _ _ _ => False) F m ds S hr grd e0 r hn hst rep post) fun z s2 hz => by
    cases z with
    | error u =>
      obtain ⟨_, _, _, _, _, _, _, _, _, _, _, _, z⟩ := hz
      exact z.elim
    | ok fl =>
      cases fl with
      | ret u => exact I.after hz
      | next => exact hz.elim
      | brk => exact hz.elim
      | cont => exact hz.elim)
/-! ### o[e] -/
def dIxX (C : Addr) (den : List D → Sto → Res D) (ga gb : Ev D) : Ev D := fun ρ S => (ga ρ S).bind fun x S1 => (gb ρ S1).bind fun y S2 => match insAt C S2 x with
  | some _ => den [x, y] S2
  | _ => .bad
def tIxX (X : Cx) (W : WX) (C : Addr) (den : List D → Sto → Res D) (ta tb : TE) : TE := fun σ H Q => ta σ H fun x H1 => tb σ H1 fun y H2 => ∃ a dx fs, x = .ref a ∧ H2 a = some (.ins C dx fs) ∧
  ∃ F m ds S, HSt X.K H2 S F m ∧ RepL X.K F m ds [.ref a, y] ∧ Post (Rep X.K) X.mg X.K H2 F m (den ds S) Q (fun c d H' => W c d σ H')
theorem de_ixX {a b : Expr} {ga gb : Ev D} {pos : Pos} (G : FnG X.prog X.w X.K X.mg X.base k g 2 den) (ok : XOk X j) (hk : k + 1 ≤ j) (hs : PySem.W.findIn X.K (.ref C) "__getitem__" = some (some (.ref g))) (hf : PySem.W.isFn X.K (.ref g) = true) (hfi : PySem.W.fnIn X.K g = true)
    (ha : DE X a ga) (hb : DE X b gb) (hsl : ∀ o i, subscripted b true o i = runValue (.builtin "lifetime.subscript" ⟨[o, i], []⟩) := by (intro _ _; with_unfolding_all rfl)) : DE X (.Subscript a b pos) (dIxX C den ga gb) := by
  refine ⟨fun W tk => ?_⟩
  obtain ⟨ta, pa, ra⟩ := ha.ex W tk
  obtain ⟨tb, pb, rb⟩ := hb.ex W tk
  have hr : Room (k + 1) X.A := ok.room.mono hk
  refine ⟨tIxX X W C den ta tb, ⟨fun pins s σ H Q I h => ?_⟩, fun σ H ρ S F m Q sl h q => ?_⟩
  · refine Subscript_ (binT pa pb I (R := fun x y H2 => ∃ a dx fs, x = .ref a ∧ H2 a = some (.ins C dx fs) ∧ ∃ F m ds S, HSt X.K H2 S F m ∧ RepL X.K F m ds [.ref a, y] ∧ Post (Rep X.K) X.mg X.K H2 F m (den ds S) Q (fun c d H' => W c d σ H')) h fun v u s2 x y H2 I2 rx ry q => ?_)
    obtain ⟨p, dx, fs, rfl, hp, F, m, ds, S, hst, rep, post⟩ := q
    cases (show v = Value.ref p from rx)
    obtain ⟨mA, J, _⟩ := ins_get I2.hok hp
    obtain ⟨od, J, _⟩ := J.look
    obtain ⟨m2, hF⟩ := I2.fr
    exact PySem.W.sub_K hF I2.ok.mod.kin J hs hfi hf (run_gA (us := [.ref p, u]) (vs := [.ref p, y]) G hr.in1 ok.grd1 I2.env0.in1 tk I2 (.cons rfl (.cons ry .nil)) rfl hst rep post) (hsl _ _)
  · refine ra σ H ρ S F m _ sl h (Post.bind q fun x S1 v H1 F1 m1 h1 x1 r1 p1 => ?_)
    refine rb σ H1 ρ S1 F1 m1 _ (sl.le x1.le) h1 (Post.bind p1 fun y S2 u H2 F2 m2 h2 x2 r2 p2 => ?_)
    cases e1 : insAt C S2 x with
    | none => rw [e1] at p2; exact p2.elim
    | some z =>
      rw [e1] at p2
      obtain ⟨i1, f1⟩ := z
      have r1 := r1.le x2.le
      obtain ⟨rfl, es1, p, d1, v1, rfl, l1, g1, kv1⟩ := insAt_ok h2 r1 e1
      exact ⟨p, d1, v1, rfl, g1, F2, m2, _, S2, h2, .cons r1 (.cons r2 .nil), p2⟩
/-! ### len(o), str(o) -/
def fOwn1 (C : Addr) (den : List D → Sto → Res D) (back : D → Sto → Res D) (ds : List D) (S : Sto) : Res D := match ds with
  | [x] => match insAt C S x with
    | some _ => (den [x] S).nox.bind back
    | none => .bad
  | _ => .bad
def lenBk (d : D) (S : Sto) : Res D := match d with
  | .int n => if 0 ≤ n ∧ n < 2 ^ 63 then .ok (.int n) S else .bad
  | _ => .bad
def strBk (d : D) (S : Sto) : Res D := match d with
  | .str y => .ok (.str y) S
  | _ => .bad
def rOwn1 (X : Cx) (C : Addr) (den : List D → Sto → Res D) (P : V → Hp → VK → Prop) : List V → Hp → VK → Prop := fun xs H Q => ∃ a dx fs, xs = [.ref a] ∧ H a = some (.ins C dx fs) ∧
  ∃ F m ds S, HSt X.K H S F m ∧ RepL X.K F m ds [.ref a] ∧ Post (Rep X.K) X.mg X.K H F m (den ds S) (fun v H' => P v H' Q) (fun _ _ _ => False)
theorem k_own1 {P : V → Hp → VK → Prop} {back : D → Sto → Res D} (hb : ∀ H F m d S v Q E, HSt X.K H S F m → Rep X.K F m d v → Post (Rep X.K) X.mg X.K H F m (back d S) Q E → P v H Q) : RLK X (rOwn1 X C den P) (fOwn1 C den back) := by
  intro H S F m xs ds Q E h r p
  unfold fOwn1 at p
  split at p
  · rename_i x
    cases e1 : insAt C S x with
    | none => rw [e1] at p; exact p.elim
    | some z =>
      rw [e1] at p
      obtain ⟨i1, f1⟩ := z
      cases r with
      | cons ra rb =>
        cases rb
        obtain ⟨rfl, es1, a, d1, v1, rfl, l1, g1, kv1⟩ := insAt_ok h ra e1
        refine ⟨a, d1, v1, rfl, g1, F, m, _, S, h, .cons ra .nil, nox_post (E := E) ?_⟩
        exact Post.bind p fun d S1 v H1 F1 m1 h1 x1 r1 p1 => hb _ _ _ _ _ _ _ _ h1 r1 p1
  · exact p.elim
theorem call_lenO (G : FnG X.prog X.w X.K X.mg X.base k g 1 den) (ok : XOk X j) (hk : k + 1 ≤ j) (hs : PySem.W.findIn X.K (.ref C) "__len__" = some (some (.ref g))) (hf : PySem.W.isFn X.K (.ref g) = true) :
    CallR X (.builtin "len") (rOwn1 X C den fun v H Q => ∃ n, v = .int n ∧ 0 ≤ n ∧ n < 2 ^ 63 ∧ Q (.int n) H) := by
  intro pins s σ H xs us Q I r h
  obtain ⟨a, dx, fs, rfl, hp, F, m, ds, S, hst, rep, post⟩ := h
  obtain ⟨u, rfl, rx⟩ := vals1 r
  cases (show u = Value.ref a from rx)
  obtain ⟨mA, J, _⟩ := ins_get I.hok hp
  obtain ⟨od, J, _⟩ := J.look
  obtain ⟨m2, hF⟩ := I.fr
  have hr : Room (k + 1) X.A := ok.room.mono hk
  refine PySem.W.len_K hF I.ok.mod.kin J hs hf (wpAny_mono (run_g0 (us := [.ref a]) (vs := [.ref a]) G hr.in1 ok.grd1 I.env0.in1 I (.cons rfl .nil) rfl hst rep post) (fun w s2 z => ?_) fun _ _ x => x)
  obtain ⟨z2, H2, I2, rz, n, rfl, n0, n1, q⟩ := z
  obtain ⟨t, rfl⟩ := (show ∃ t, w = Value.int n t from rz)
  exact ⟨⟨n0, n1⟩, .int n, H2, I2.tok _, ⟨_, rfl⟩, q⟩
theorem k_lenO : RLK X (rOwn1 X C den fun v H Q => ∃ n, v = .int n ∧ 0 ≤ n ∧ n < 2 ^ 63 ∧ Q (.int n) H) (fOwn1 C den lenBk) := k_own1 fun H F m d S v Q E h r p => by
  unfold lenBk at p
  cases r with
  | int i =>
    dsimp only at p
    split at p
    · rename_i hc
      exact ⟨i, rfl, hc.1, hc.2, p _ H F m h (Ext.refl _ _ _) (.int _)⟩
    · exact p.elim
  | _ => exact p.elim
theorem call_strO (G : FnG X.prog X.w X.K X.mg X.base k g 1 den) (ok : XOk X j) (hk : k + 2 ≤ j) (hs : PySem.W.findIn X.K (.ref C) "__str__" = some (some (.ref g))) (hf : PySem.W.isFn X.K (.ref g) = true) :
    CallR X (.type "str") (rOwn1 X C den fun v H Q => ∃ y, v = .str y ∧ Q (.str y) H) := by
  intro pins s σ H xs us Q I r h
  obtain ⟨a, dx, fs, rfl, hp, F, m, ds, S, hst, rep, post⟩ := h
  obtain ⟨u, rfl, rx⟩ := vals1 r
  cases (show u = Value.ref a from rx)
  obtain ⟨mA, J, _⟩ := ins_get I.hok hp
  obtain ⟨od, J, _⟩ := J.look
  have hr : Room (k + 2) X.A := ok.room.mono hk
  refine PySem.W.kso_call hr.in1.in1.units0 I.kIn J hs hf (wpAny_mono (run_g0 (us := [.ref a]) (vs := [.ref a]) G hr.in1.in1 ok.grd2 I.env0.in1.in1 I (.cons rfl .nil) rfl hst rep post) (fun w s2 z => ?_) fun _ _ x => x)
  obtain ⟨z2, H2, I2, rz, y, rfl, q⟩ := z
  obtain ⟨t, rfl⟩ := (show ∃ t, w = Value.str y t from rz)
  exact ⟨.str y, H2, I2, ⟨_, rfl⟩, q⟩
theorem k_strO : RLK X (rOwn1 X C den fun v H Q => ∃ y, v = .str y ∧ Q (.str y) H) (fOwn1 C den strBk) := k_own1 fun H F m d S v Q E h r p => by
  unfold strBk at p
  cases r with
  | str y hz => exact ⟨y, rfl, p _ H F m h (Ext.refl _ _ _) (.str _ hz)⟩
  | _ => exact p.elim
/-! ### y not in x -/
def rOwnNin (X : Cx) (C : Addr) (den : List D → Sto → Res D) : R2 := fun y x H Q => rOwn X C den x y H fun v H' => ∃ k, v = .bl k ∧ Q (.bl (!k)) H'
def fOwnNin (C : Addr) (den : List D → Sto → Res D) (y x : D) (S : Sto) : Res Bool := (fOwnIn C den y x S).bind fun b S1 => .ok (!b) S1
theorem op_ownNin (G : FnG X.prog X.w X.K X.mg X.base k g 2 den) (ok : XOk X j) (hk : k ≤ j) (hs : PySem.W.findIn X.K (.ref C) "__contains__" = some (some (.ref g))) (hf : PySem.W.isFn X.K (.ref g) = true) : OpR X (compareOp .NotIn) (rOwnNin X C den) := by
  intro pins s σ H y x u v Q I ry rx h
  obtain ⟨a, b, dx, dy, fs, gs, rfl, rfl, ha, hb, F, m, ds, S, hst, rep, post⟩ := h
  cases (show v = Value.ref a from rx)
  cases (show u = Value.ref b from ry)
  obtain ⟨mA, J, _⟩ := ins_get I.hok ha
  obtain ⟨od, J, _⟩ := J.look
  obtain ⟨m2, hF⟩ := I.fr
  refine PySem.W.notIn_K hF I.ok.mod.kin J hs hf (wpAny_mono (run_own G ok hk I hst rep post) (fun w s2 z => ?_) fun _ _ x => x)
  obtain ⟨z2, H2, I2, rz, kk, rfl, qz⟩ := z
  cases (show w = Value.bool kk from rz)
  exact wpAny_truthy_bool ⟨.bl (!kk), H2, I2, rfl, qz⟩
theorem k_ownNin : RCK X (rOwnNin X C den) (fOwnNin C den) := by
  intro H S F m y x dy dx Q E h ry rx p
  unfold fOwnNin fOwnIn at p
  cases e1 : insAt C S dx with
  | none => rw [e1] at p; exact p.elim
  | some z =>
    cases e2 : insAt C S dy with
    | none => rw [e1, e2] at p; exact p.elim
    | some z2 =>
      rw [e1, e2] at p
      obtain ⟨i1, f1⟩ := z
      obtain ⟨i2, f2⟩ := z2
      obtain ⟨rfl, es1, a, d1, v1, rfl, l1, h1, kv1⟩ := insAt_ok h rx e1
      obtain ⟨rfl, es2, b, d2, v2, rfl, l2, h2, kv2⟩ := insAt_ok h ry e2
      refine ⟨a, b, d1, d2, v1, v2, rfl, rfl, h1, h2, F, m, _, S, h, .cons rx (.cons ry .nil), ?_⟩
      refine nox_post (E := E) ?_
      have e : ((den [.loc i1, .loc i2] S).nox.bind asB).bind (fun b S1 => .ok (!b) S1) = (den [.loc i1, .loc i2] S).nox.bind fun d S1 => (asB d S1).bind fun b S2 => (.ok (!b) S2 : Res Bool) := by cases (den [.loc i1, .loc i2] S).nox <;> rfl
      have p : Post (fun _ _ (a b : Bool) => a = b) X.mg X.K H F m ((den [.loc i1, .loc i2] S).nox.bind fun d S1 => (asB d S1).bind fun b S2 => .ok (!b) S2) Q E := by
        rw [← e]; exact p
      refine Post.bind p fun d S2 v H2 F2 m2 h2 x2 rv q => ?_
      cases rv with
      | bl b => exact ⟨b, rfl, !b, rfl, q _ H2 F2 m2 h2 (Ext.refl _ _ _) rfl⟩
      | _ => exact q.elim
theorem mono_ownNin (x y : V) (H : Hp) (Q Q' : VK) (hq : ∀ v H', Q v H' → Q' v H') (h : rOwnNin X C den x y H Q) : rOwnNin X C den x y H Q' :=
  mono_own _ _ _ _ _ (fun v H2 ⟨k, e, z⟩ => ⟨k, e, hq _ _ z⟩) h
end
/-! ### what they come to -/
theorem wp_ixX {ρ : DEnv} {S : Sto} {C : Addr} {den : List D → Sto → Res D} {ga gb : Ev D} {Q : D → Sto → Prop}
    (q : WpE EX (ga ρ S) fun x S1 => WpE EX (gb ρ S1) fun y S2 => ∃ n fs, x = .loc n ∧ S2[n]? = some (.ins C fs) ∧ WpE EX (den [.loc n, y] S2) Q) : WpE EX (dIxX C den ga gb ρ S) Q := by
  unfold dIxX
  rw [wp_bind]
  refine WpE.mp q fun x S1 h => ?_
  rw [wp_bind]
  refine WpE.mp h fun y S2 h => ?_
  obtain ⟨n, fs, rfl, e1, h⟩ := h
  rw [insAt_loc e1]
  exact h
theorem wp_own1 {S : Sto} {C : Addr} {den : List D → Sto → Res D} {back : D → Sto → Res D} {n : Nat} {fs : List (Str × D)} {Q : D → Sto → Prop} (e : S[n]? = some (.ins C fs)) (q : WpE noX (den [.loc n] S) fun d S1 => WpE EX (back d S1) Q) : WpE EX (fOwn1 C den back [.loc n] S) Q := by
  unfold fOwn1
  dsimp only
  rw [insAt_loc e]
  dsimp only
  obtain ⟨d, S2, ed, hd⟩ := Wp.ex q
  rw [ed]
  exact hd
end DL

/-! DL: lists of objects that are equal item by item, by their own ==. -/
namespace DL
open PySem PySem.Spec PyProof.Rows L2
open AutoSeq1 (wpAny_loadPart')
open MeetsSeq MeetsSeq2 MeetsSeq3
section
variable {prog : Program} {w : World}
theorem ne_loopJ {l b : Addr} {items items2 : Array Value} (hsz : items.size = items2.size) {A : Around} {R : Result → Shared → Prop} {J : Nat → Shared → Prop}
    (hJ : ∀ i s, J i s → s.heap.IsList l items ∧ s.heap.IsList b items2)
    (step : ∀ i (h1 : i < items.size) (h2 : i < items2.size) (s : Shared) (Q : Bool → Shared → Prop) (E : Value → Shared → Prop), J i s → (∀ s2, J (i + 1) s2 → Q true s2) → wpAny (model prog w) A.in1 (eqBool items[i] items2[i]) Q E s)
    (fin : ∀ s, J items.size s → R (.ok (.ret (.bool false))) s) : ∀ (k i : Nat) (s : Shared), items.size - i = k → i ≤ items.size → J i s →
    wpAny (model prog w) A.in1 (Builtin.«list.__eq__.loop» ⟨[.ref l, .ref b, rawInt i, rawInt 3], []⟩) (fun fl s2 => match fl with | .done f => R (.ok f) s2 | .again c => c.quiet = true ∧ codeAny (model prog w) A c R s2) (fun e s2 => R (.error e) s2) s
  | 0, i, s, hk, hi, hj => by
    obtain ⟨⟨⟨c1, d1, t1, s1⟩, ho, hc, n, hd⟩, ⟨⟨c2, d2, t2, s2⟩, ho2, hc2, n2, hd2⟩⟩ := hJ i s hj
    simp only at hc hd hc2 hd2
    subst hc hd hc2 hd2
    have hie : i = items.size := by omega
    subst hie
    have z := fin s hj
    obtain ⟨hp, g, d, tk, os⟩ := s
    wp_walk using wpAny_loadPart' ho, wpAny_loadPart' ho2
    have hi1 : items[((items.size : Nat) : Int).toNat]? = none := by simp
    have hi2 : items2[((items.size : Nat) : Int).toNat]? = none := by simp; omega
    rw [hi1, hi2]
    wp_walk using wpAny_loadPart' ho, wpAny_loadPart' ho2
    show R (.ok (.ret (.bool (items.size != items2.size)))) _
    rw [hsz]
    simpa using z
  | k + 1, i, s, hk, hi, hj => by
    obtain ⟨⟨⟨c1, d1, t1, s1⟩, ho, hc, n, hd⟩, ⟨⟨c2, d2, t2, s2⟩, ho2, hc2, n2, hd2⟩⟩ := hJ i s hj
    simp only at hc hd hc2 hd2
    subst hc hd hc2 hd2
    have st := step i (by omega) (by omega)
    obtain ⟨hp, g, d, tk, os⟩ := s
    wp_walk using wpAny_loadPart' ho, wpAny_loadPart' ho2
    have hlt : i < items.size := by omega
    have hlt2 : i < items2.size := by omega
    have hi1 : items[((i : Nat) : Int).toNat]? = some items[i] := by simp [hlt]
    have hi2 : items2[((i : Nat) : Int).toNat]? = some items2[i] := by simp [hlt2]
    have hc : ((i : Int) + 1) = ((i + 1 : Nat) : Int) := by push_cast; rfl
    rw [hi1, hi2]
    refine wpAny_bind (st _ _ _ hj fun s2 hj2 => ?_)
    wp_walk
    rw [hc]
    refine ⟨plainId_quiet plain_eq_loop _, codeAny_builtin entry_eq_loop ?_⟩
    rw [Around.under_plainId plain_eq_loop _]
    exact ne_loopJ hsz hJ step fin k (i + 1) s2 (by omega) (by omega) hj2
theorem rc_neJ {l b : Addr} {items items2 : Array Value} {A : Around} {E : Value → Shared → Prop} {Q : Value → Shared → Prop} {s : Shared} (hsz : items.size = items2.size) {J : Nat → Shared → Prop} (hu : A.units < cLine)
    (hJ : ∀ i s, J i s → s.heap.IsList l items ∧ s.heap.IsList b items2)
    (step : ∀ i (h1 : i < items.size) (h2 : i < items2.size) (s : Shared) (Q : Bool → Shared → Prop) (E : Value → Shared → Prop), J i s → (∀ s2, J (i + 1) s2 → Q true s2) → wpAny (model prog w) A.in1 (eqBool items[i] items2[i]) Q E s)
    (fin : ∀ s, J items.size s → Q (.bool false) s) (h0 : J 0 s) : wpAny (model prog w) A (richCompare .NotEq (.ref l) (.ref b)) Q E s := by
  obtain ⟨⟨⟨c1, d1, t1, s1⟩, ho, hc, n, hd⟩, ⟨⟨c2, d2, t2, s2⟩, ho2, hc2, n2, hd2⟩⟩ := hJ 0 s h0
  simp only at hc hd hc2 hd2
  subst hc hd hc2 hd2
  have ha : s.TypeIs (.ref l) "list" := ⟨_, ho, rfl⟩
  have hb : s.TypeIs (.ref b) "list" := ⟨_, ho2, rfl⟩
  refine wpAny_richCompare_same_room (op := .NotEq) ha hb PySem.F.slot_list_ne (wpAny_call (codeAny_call_builtin PySem.F.slot_list_ne.plain PySem.F.entry_list_ne (PySem.F.slot_list_ne.check _ _ _ _ _ _ _ _ ha (PySem.F.args_list_ne_2 _ _) ?_))) hu
  have lp := ne_loopJ (A := A) (R := fun r s2 => match r with | .ok (.ret v) => v ≠ .notImplemented ∧ Q v s2 | .ok _ => False | .error e => E e s2) hsz hJ step (fun s hj => ⟨nofun, fin s hj⟩) items.size 0 s rfl (Nat.zero_le _) h0
  have f3 := AutoSeq1.sub_list_list
  have hne : ¬ (items.size != items2.size) = true := by simp [hsz]
  obtain ⟨hp, g, d, tk, os⟩ := s
  wp_walk using wpAny_loadPart' ho, wpAny_loadPart' ho2
  refine ⟨plainId_quiet plain_eq_loop _, codeAny_builtin entry_eq_loop ?_⟩
  rw [Around.under_plainId plain_eq_loop _]
  exact lp
end
section
variable {X : Cx} {C g : Addr} {k j : Nat} {den : List D → Sto → Res D}
/-- the items of two lists, one by one -/
def ChO (X : Cx) (C : Addr) (den : List D → Sto → Res D) (a b : Addr) (us ws : List V) : List Addr → List Addr → Hp → (Hp → Prop) → Prop
  | [], [], H, Q => H a = some (.lst us) ∧ H b = some (.lst ws) ∧ Q H
  | p :: ps, q :: qs, H, Q => H a = some (.lst us) ∧ H b = some (.lst ws) ∧ p ≠ q ∧ rOwn X C den (.ref p) (.ref q) H fun v H2 => v = .bl true ∧ ChO X C den a b us ws ps qs H2 Q
  | _, _, _, _ => False
theorem ChO.at_ {a b : Addr} {us ws : List V} : ∀ {ps qs : List Addr} {H : Hp} {Q : Hp → Prop}, ChO X C den a b us ws ps qs H Q → H a = some (.lst us) ∧ H b = some (.lst ws)
  | [], [], _, _, h => ⟨h.1, h.2.1⟩
  | _ :: _, _ :: _, _, _, h => ⟨h.1, h.2.1⟩
  | [], _ :: _, _, _, h => h.elim
  | _ :: _, [], _, _, h => h.elim
theorem ChO.imp {a b : Addr} {us ws : List V} {Q Q2 : Hp → Prop} (k : ∀ H, Q H → Q2 H) : ∀ {ps qs : List Addr} {H : Hp}, ChO X C den a b us ws ps qs H Q → ChO X C den a b us ws ps qs H Q2
  | [], [], _, h => ⟨h.1, h.2.1, k _ h.2.2⟩
  | _ :: _, _ :: _, _, h => ⟨h.1, h.2.1, h.2.2.1, mono_own _ _ _ _ _ (fun v H2 ⟨e, c⟩ => ⟨e, c.imp k⟩) h.2.2.2⟩
  | [], _ :: _, _, h => h.elim
  | _ :: _, [], _, h => h.elim
def rNeLO (X : Cx) (C : Addr) (den : List D → Sto → Res D) : R2 := fun x y H Q => ∃ a b ps qs, x = .ref a ∧ y = .ref b ∧ ps.length = qs.length ∧ ChO X C den a b (ps.map .ref) (qs.map .ref) ps qs H fun H2 => Q (.bl false) H2
theorem refs_rel : ∀ {ps : List Addr} {us : List Value}, Vals (ps.map V.ref) us → us = ps.map .ref
  | [], _, .nil => rfl
  | p :: ps, _, .cons a b => by
    rw [refs_rel b]
    cases (show _ = Value.ref p from a)
    rfl
theorem op_neLO (G : FnG X.prog X.w X.K X.mg X.base k g 2 den) (ok : XOk X j) (hk : k + 1 ≤ j) (hs : PySem.W.findIn X.K (.ref C) "__eq__" = some (some (.ref g))) (hf : PySem.W.isFn X.K (.ref g) = true) : OpR X (compareOp .NotEq) (rNeLO X C den) := by
  intro pins s σ H x y v u Q I rx ry h
  obtain ⟨a, b, ps, qs, rfl, rfl, hl, ch⟩ := h
  cases (show v = Value.ref a from rx)
  cases (show u = Value.ref b from ry)
  have hr : Room (k + 1) X.A := ok.room.mono hk
  have e1 : (ps.map Value.ref).toArray.size = ps.length := by simp
  have e2 : (qs.map Value.ref).toArray.size = qs.length := by simp
  refine rc_neJ (items := (ps.map Value.ref).toArray) (items2 := (qs.map Value.ref).toArray) (J := fun i s => ∃ H, Inv X pins σ H s ∧ ChO X C den a b (ps.map .ref) (qs.map .ref) (ps.drop i) (qs.drop i) H fun H2 => Q (.bl false) H2) (by simp [hl]) ok.room.units0 ?_ ?_ ?_ ⟨H, I, ch⟩
  · rintro i s2 ⟨H2, I2, c⟩
    obtain ⟨ga, gb⟩ := c.at_
    obtain ⟨its, rv, pl, _⟩ := I2.list (.inl (.inl ga))
    obtain ⟨its2, rv2, pl2, _⟩ := I2.list (.inl (.inl gb))
    have z1 := refs_rel rv
    have z2 := refs_rel rv2
    rw [← z1, ← z2]
    exact ⟨by simpa using pl.isList, by simpa using pl2.isList⟩
  · rintro i h1 h2 s2 Q2 E2 ⟨H2, I2, c⟩ q2
    rw [e1] at h1
    rw [e2] at h2
    rw [List.drop_eq_getElem_cons h1, List.drop_eq_getElem_cons h2] at c
    obtain ⟨ga, gb, hne, p, q, dx, dy, fs, gs, ep, eq, hp, hq, F, m, ds, S, hst, rep, post⟩ := c
    injection ep with ep
    injection eq with eq
    subst ep eq
    simp only [List.getElem_toArray, List.getElem_map]
    unfold eqBool
    refine wpAny_holding ?_
    refine wpAny_ite_split (fun hab => absurd (by have := eq_of_beq hab; injection this) hne) (fun _ => ?_)
    obtain ⟨mA, O1, _⟩ := ins_get I2.hok hp
    obtain ⟨mB, O2, _⟩ := ins_get I2.hok hq
    obtain ⟨od, O1, _⟩ := O1.look
    obtain ⟨od2, O2, _⟩ := O2.look
    obtain ⟨m2, hF⟩ := I2.fr
    refine wpAny_bind (PySem.W.cmp_K (op := .Eq) (tb := .ref C) hr.in1.units0 hF I2.ok.mod.kin O1 O2.type (by simp [PySem.W.notFirst]) hs hf (wpAny_mono (run_g0 (us := [.ref _, .ref _]) (vs := [.ref _, .ref _]) G hr.in1 ok.grd1 I2.env0.in1 I2 (.cons rfl (.cons rfl .nil)) rfl hst rep post) (fun w s3 z => ?_) fun _ _ x => x))
    obtain ⟨z3, H3, I3, rz, rfl, c3⟩ := z
    cases (show w = Value.bool true from rz)
    exact wpAny_truthy_bool (q2 s3 ⟨H3, I3, c3⟩)
  · rintro s2 ⟨H2, I2, c⟩
    rw [e1, List.drop_length, hl, List.drop_length] at c
    exact ⟨.bl false, H2, I2, rfl, c.2.2⟩
/-- all equal, or nothing is said -/
def neLO (C : Addr) (den : List D → Sto → Res D) : List D → List D → Sto → Res Bool
  | [], [], S => .ok false S
  | .loc i :: xs, .loc j :: ys, S => if i ≠ j then match insAt C S (.loc i), insAt C S (.loc j) with
    | some _, some _ => (den [.loc i, .loc j] S).nox.bind fun d S1 => match d with
      | .bl true => neLO C den xs ys S1
      | _ => .bad
    | _, _ => .bad
    else .bad
  | _, _, _ => .bad
def fNeLO (C : Addr) (den : List D → Sto → Res D) (x y : D) (S : Sto) : Res Bool := match x, y with
  | .lst xs, .lst ys => neLO C den xs ys S
  | _, _ => .bad
theorem neLO_x {x y : D} {xs ys : List D} {S : Sto} (h : ∀ i, x ≠ .loc i) : neLO C den (x :: xs) (y :: ys) S = .bad := by
  cases x <;> first | exact absurd rfl (h _) | rfl
theorem neLO_y {i : Nat} {y : D} {xs ys : List D} {S : Sto} (h : ∀ i, y ≠ .loc i) : neLO C den (.loc i :: xs) (y :: ys) S = .bad := by
  cases y <;> first | exact absurd rfl (h _) | rfl
theorem neLO_shape : ∀ {xs ys : List D} {S : Sto}, neLO C den xs ys S ≠ .bad → ∃ is js : List Nat, xs = is.map .loc ∧ ys = js.map .loc ∧ is.length = js.length
  | [], [], _, _ => ⟨[], [], rfl, rfl, rfl⟩
  | [], _ :: _, _, h => absurd rfl h
  | x :: _, [], _, h => absurd (by cases x <;> rfl) h
  | x :: xs, y :: ys, S, h => by
    by_cases hx : ∃ i, x = .loc i
    · by_cases hy : ∃ j, y = .loc j
      · obtain ⟨i, rfl⟩ := hx
        obtain ⟨j, rfl⟩ := hy
        unfold neLO at h
        split at h
        · split at h
          · cases e : (den [.loc i, .loc j] S).nox with
            | ok d S1 =>
              rw [e] at h
              cases d with
              | bl b =>
                cases b with
                | true =>
                  obtain ⟨is, js, rfl, rfl, hl⟩ := neLO_shape (xs := xs) (ys := ys) (S := S1) h
                  exact ⟨i :: is, j :: js, rfl, rfl, by simp [hl]⟩
                | false => exact absurd rfl h
              | _ => exact absurd rfl h
            | exc x S1 =>
              exfalso
              cases q : den [.loc i, .loc j] S <;> rw [q] at e <;> cases e
            | bad => rw [e] at h; exact absurd rfl h
          · exact absurd rfl h
        · exact absurd rfl h
      · obtain ⟨i, rfl⟩ := hx
        exact absurd (neLO_y fun j z => hy ⟨j, z⟩) h
    · exact absurd (neLO_x fun j z => hx ⟨j, z⟩) h
theorem reps_loc {K : PySem.W.Frag} {F : Hp} {m : List Addr} : ∀ {is : List Nat} {us : List V}, RepL K F m (is.map .loc) us → ∃ ps : List Addr, us = ps.map .ref ∧ ps.length = is.length
  | [], _, .nil => ⟨[], rfl, rfl⟩
  | i :: is, _, .cons a b => by
    obtain ⟨ps, rfl, hl⟩ := reps_loc b
    cases a with
    | @loc _ p l => exact ⟨p :: ps, rfl, by simp [hl]⟩
theorem cho_of {a b : Addr} {us ws : List V} {E : XW} {Q : Bool → Hp → Prop} : ∀ (is js : List Nat) (ps qs : List Addr) (H : Hp) (S : Sto) (F : Hp) (m : List Addr), HSt X.K H S F m → F a = some (.lst us) → F b = some (.lst ws) → RepL X.K F m (is.map .loc) (ps.map .ref) → RepL X.K F m (js.map .loc) (qs.map .ref) →
    Post (fun _ _ (a b : Bool) => a = b) X.mg X.K H F m (neLO C den (is.map .loc) (js.map .loc) S) Q E → ChO X C den a b us ws ps qs H fun H2 => Q false H2
  | [], [], [], [], H, S, F, m, h, fa, fb, _, _, p => ⟨h.fz _ _ fa, h.fz _ _ fb, p _ H F m h (Ext.refl _ _ _) rfl⟩
  | [], _, _ :: _, _, _, _, _, _, _, _, _, r, _, _ => nomatch r
  | _, [], _, _ :: _, _, _, _, _, _, _, _, _, r, _ => nomatch r
  | _ :: _, _, [], _, _, _, _, _, _, _, _, r, _, _ => nomatch r
  | _, _ :: _, _, [], _, _, _, _, _, _, _, _, r, _ => nomatch r
  | i :: is, j :: js, p :: ps, q :: qs, H, S, F, m, h, fa, fb, .cons r1 r2, .cons r3 r4, post => by
    rw [List.map_cons, List.map_cons] at post
    unfold neLO at post
    split at post
    · rename_i hij
      cases e1 : insAt C S (.loc i) with
      | none => rw [e1] at post; exact post.elim
      | some z =>
        cases e2 : insAt C S (.loc j) with
        | none => rw [e1, e2] at post; exact post.elim
        | some z2 =>
          rw [e1, e2] at post
          obtain ⟨i1, f1⟩ := z
          obtain ⟨i2, f2⟩ := z2
          obtain ⟨ei, es1, pa, d1, v1, eq1, l1, h1, kv1⟩ := insAt_ok h r1 e1
          obtain ⟨ej, es2, pb, d2, v2, eq2, l2, h2, kv2⟩ := insAt_ok h r3 e2
          injection eq1 with eq1
          injection eq2 with eq2
          injection ei with ei
          injection ej with ej
          subst eq1 eq2 ei ej
          refine ⟨h.fz _ _ fa, h.fz _ _ fb, fun z => ?_, p, q, d1, d2, v1, v2, rfl, rfl, h1, h2, F, m, _, S, h, .cons r1 (.cons r3 .nil), nox_post (E := E) ?_⟩
          · subst z
            have hi := List.getElem?_eq_some_iff.mp l1
            obtain ⟨hi, _⟩ := hi
            exact hij ((List.getElem?_inj hi h.nod).mp (l1.trans l2.symm))
          · refine Post.bind post fun d S1 v H1 F1 m1 h3 x1 rv p1 => ?_
            cases rv with
            | bl b0 =>
              cases b0 with
              | true => exact ⟨rfl, cho_of is js ps qs H1 S1 F1 m1 h3 (x1.f _ _ fa) (x1.f _ _ fb) (r2.le x1.le) (r4.le x1.le) p1⟩
              | false => exact p1.elim
            | _ => exact p1.elim
    · exact post.elim
theorem k_neLO : RCK X (rNeLO X C den) (fNeLO C den) := by
  intro H S F m x y dx dy Q E h rx ry p
  unfold fNeLO at p
  split at p
  · rename_i xs ys
    have hnb : neLO C den xs ys S ≠ .bad := fun z => by rw [z] at p; exact p.elim
    obtain ⟨is, js, rfl, rfl, hl⟩ := neLO_shape hnb
    cases rx with
    | @lst a _ us hz fa ra =>
      cases ry with
      | @lst b _ ws hz2 fb rb =>
        obtain ⟨ps, rfl, l1⟩ := reps_loc ra
        obtain ⟨qs, rfl, l2⟩ := reps_loc rb
        refine ⟨a, b, ps, qs, rfl, rfl, by omega, ?_⟩
        have c := cho_of (X := X) (us := ps.map .ref) (ws := qs.map .ref) (Q := Q) is js ps qs H S F m h fa fb ra rb p
        exact c.imp fun H2 z => ⟨false, rfl, z⟩
  · exact p.elim
end
section
variable {EX : XP}
theorem wp_neLO {C : Addr} {den : List D → Sto → Res D} {xs ys : List D} {S : Sto} {Q : Bool → Sto → Prop} (q : WpE EX (neLO C den xs ys S) Q) : WpE EX (fNeLO C den (.lst xs) (.lst ys) S) Q := q
theorem wp_neLO0 {C : Addr} {den : List D → Sto → Res D} {S : Sto} {Q : Bool → Sto → Prop} (q : Q false S) : WpE EX (neLO C den [] [] S) Q := q
theorem wp_neLO1 {C : Addr} {den : List D → Sto → Res D} {i j : Nat} {xs ys : List D} {S S1 : Sto} {fs gs : List (Str × D)} {Q : Bool → Sto → Prop} (hij : i ≠ j) (e1 : S[i]? = some (.ins C fs)) (e2 : S[j]? = some (.ins C gs)) (e : den [.loc i, .loc j] S = .ok (.bl true) S1) (q : WpE EX (neLO C den xs ys S1) Q) :
    WpE EX (neLO C den (.loc i :: xs) (.loc j :: ys) S) Q := by
  unfold neLO
  rw [if_pos hij, insAt_loc e1, insAt_loc e2]
  dsimp only
  rw [e]
  exact q
end
end DL

/-! DL: a for over a list of the store, which stays as it is meanwhile. -/
namespace DL
open PySem PySem.Spec PyProof.Rows L2
variable {EX : XP} {ES : XPs}
open Classical in
noncomputable def fgL (n0 : Nat) (xs : List D) (g : Tg) (b : St') : List D → DEnv → Sto → SR
  | [], ρ, S => if S[n0]? = some (.lst xs) then .nx ρ S else .bad
  | d :: ds, ρ, S => if S[n0]? = some (.lst xs) then (match g d ρ with
    | none => .bad
    | some ρ1 => match b ρ1 S with
      | .nx ρ2 S2 => fgL n0 xs g b ds ρ2 S2
      | .ct ρ2 S2 => fgL n0 xs g b ds ρ2 S2
      | .bk ρ2 S2 => .nx ρ2 S2
      | .rt v S2 => .rt v S2
      | .exc x ρ2 S2 => .exc x ρ2 S2
      | .bad => .bad) else .bad
theorem fgL_nil {n0 : Nat} {xs : List D} {g : Tg} {b : St'} {ρ : DEnv} {S : Sto} (h : S[n0]? = some (.lst xs)) : fgL n0 xs g b [] ρ S = .nx ρ S := by unfold fgL; exact if_pos h
theorem fgL_cons {n0 : Nat} {xs : List D} {g : Tg} {b : St'} {ρ : DEnv} {d : D} {ds : List D} {S : Sto} (h : S[n0]? = some (.lst xs)) : fgL n0 xs g b (d :: ds) ρ S = match g d ρ with
    | none => .bad
    | some ρ1 => match b ρ1 S with
      | .nx ρ2 S2 => fgL n0 xs g b ds ρ2 S2
      | .ct ρ2 S2 => fgL n0 xs g b ds ρ2 S2
      | .bk ρ2 S2 => .nx ρ2 S2
      | .rt v S2 => .rt v S2
      | .exc x ρ2 S2 => .exc x ρ2 S2
      | .bad => .bad := by
  rw [fgL]; exact if_pos h
theorem fgL_bad {n0 : Nat} {xs : List D} {g : Tg} {b : St'} {ρ : DEnv} {ds : List D} {S : Sto} (h : ¬ S[n0]? = some (.lst xs)) : fgL n0 xs g b ds ρ S = .bad := by
  cases ds <;> (rw [fgL]; exact if_neg h)
noncomputable def goFL (g : Tg) (b : St') (ρ : DEnv) (d : D) (S : Sto) : SR := match d with
  | .loc n => match S[n]? with
    | some (.lst xs) => fgL n xs g b xs ρ S
    | _ => .bad
  | _ => .bad
noncomputable def dForL (src : Ev D) (g : Tg) (b : St') : St' := fun ρ S => (src ρ S).bindS ρ fun d S1 => goFL g b ρ d S1
section
variable {X : Cx} {pos : Pos} {tg it : Expr}
theorem ds_forL {k : Nat} {body : List Stmt} {src : Ev D} {g : Tg} {gb : St'} {ix : List Nat} (ok : XOk X k) (hi : DE X it src) (hg : DG X tg g ix) (hb : DSs X body gb)
    (hs : ∀ x, foldedSetIterable it X.env x = pure x := by intro _; rfl) : DS X (.For tg it body [] pos) (dForL src g gb) := by
  refine ⟨fun W tk => ?_⟩
  obtain ⟨t0, p0, r0⟩ := hi.ex W tk
  obtain ⟨tg', pg, rg⟩ := hg.ex
  obtain ⟨tb, pb, rb⟩ := hb.ex W tk
  refine ⟨_, ps_for ok.po ok.calm (pi_list p0) pg pb hs, fun σ H ρ S F m N sl h p => ?_⟩
  refine r0 σ H ρ S F m _ sl h (Post.bindS sl p fun dd S1 v1 H1 F1 m1 h1 x1 r1 p1 => ?_)
  cases r1 with
  | @loc n0 a en =>
    unfold goFL at p1
    dsimp only at p1
    cases e0 : S1[n0]? with
    | none => rw [e0] at p1; exact p1.elim
    | some o =>
      cases o with
      | lst ds =>
        rw [e0] at p1
        dsimp only at p1
        have look : ∀ {H2 : Hp} {S2 : Sto} {F2 : Hp} {m2 : List Addr}, HSt X.K H2 S2 F2 m2 → Ext H1 H2 F1 F2 m1 m2 → S2[n0]? = some (.lst ds) → ∃ ws, H2 a = some (.lst ws) ∧ RepL X.K F2 m2 ds ws := fun {H2 S2 F2 m2} h2 x2 e2 => by
          obtain ⟨-, ho, hH, ws, rfl, z, q⟩ := h2.sto n0 a _ (x2.le.p _ _ en) e2 (by simp)
          exact ⟨ws, hH, q⟩
        obtain ⟨w0, hw0, -⟩ := look h1 (Ext.refl _ _ _) e0
        refine ⟨a, rfl, ⟨w0, .inl (.inl hw0)⟩, ?_⟩
        refine ⟨fun i n σ' H' => n = ds.length - i ∧ i ≤ ds.length ∧ ∃ ρ' S' F' m', Slots X.K F' m' ρ' σ' ∧ HSt X.K H' S' F' m' ∧ Ext H1 H' F1 F' m1 m' ∧ SPost X.mg X.K H' F' m' (fgL n0 ds g gb (ds.drop i) ρ' S') N W,
          ⟨_, rfl, Nat.zero_le _, ρ, S1, F1, m1, sl.le x1.le, h1, Ext.refl _ _ _, p1⟩, ?_⟩
        rintro i n σ2 H2 ⟨rfl, hil, ρ2, S2, F2, m2, sl2, h2, x2, p2⟩
        by_cases eS : S2[n0]? = some (.lst ds)
        · obtain ⟨ws, hw, rw2⟩ := look h2 x2 eS
          by_cases hlt : i < ds.length
          · have ed : ds[i]? = some ds[i] := List.getElem?_eq_getElem hlt
            have edr : ds.drop i = ds[i] :: ds.drop (i + 1) := List.drop_eq_getElem_cons hlt
            refine .inr ⟨⟨ws, ws[i]'(by rw [← rw2.length]; exact hlt), .inl (.inl hw), by simp⟩, _, fun σ' H' q => q, ?_⟩
            rintro x H3 ⟨e3, hy⟩
            have e3' := e3.symm
            subst e3'
            have hx := hy ws (.inl (.inl hw))
            obtain ⟨d, ed', r3⟩ := rw2.getV hx
            rw [ed] at ed'
            cases ed'
            rw [edr, fgL_cons eS] at p2
            cases eg : g ds[i] ρ2 with
            | none => rw [eg] at p2; exact p2.elim
            | some ρ3 =>
              rw [eg] at p2
              refine rg x σ2 H2 ρ2 S2 F2 m2 ds[i] ρ3 _ sl2 h2 r3 eg fun σ3 sl3 _ => ?_
              refine rb σ3 H2 ρ3 S2 F2 m2 _ sl3 h2 ?_
              have lt : ds.length - (i + 1) < ds.length - i := by omega
              dsimp only at p2
              revert p2
              cases eb : gb ρ3 S2 with
              | nx ρ4 S4 => exact fun p3 σ4 H4 F4 m4 sl4 h4 x4 => ⟨_, lt, rfl, hlt, ρ4, S4, F4, m4, sl4, h4, x2.trans x4, SPost.later x4 p3⟩
              | ct ρ4 S4 => exact fun p3 σ4 H4 F4 m4 sl4 h4 x4 => ⟨_, lt, rfl, hlt, ρ4, S4, F4, m4, sl4, h4, x2.trans x4, SPost.later x4 p3⟩
              | bk ρ4 S4 => exact fun p3 => p3
              | rt d4 S4 => exact fun p3 => p3
              | exc x4 ρ4 S4 => exact fun p3 => p3
              | bad => exact fun p3 => p3
          · have ei : i = ds.length := by omega
            subst ei
            rw [List.drop_length, fgL_nil eS] at p2
            exact .inl ⟨⟨ws, .inl (.inl hw), by rw [← rw2.length]; exact Nat.le_refl _⟩, p2 σ2 H2 F2 m2 sl2 h2 (Ext.refl _ _ _)⟩
        · rw [fgL_bad eS] at p2
          exact p2.elim
      | _ => rw [e0] at p1; exact p1.elim
  | _ => exact p1.elim
end
/-- by what holds turn by turn -/
theorem forL_inv {n : Nat} {xs : List D} {g : Tg} {b : St'} {ρ : DEnv} {S : Sto} {N B C : DEnv → Sto → Prop} {R : D → Sto → Prop} {src : Ev D} (I : Nat → DEnv → Sto → Prop) (hsrc : WpE (ES.at ρ) (src ρ S) fun d S1 => d = .loc n ∧ S1 = S) (e : S[n]? = some (.lst xs)) (h0 : I 0 ρ S)
    (hl : ∀ i ρ S, I i ρ S → S[n]? = some (.lst xs))
    (hs : ∀ (i : Nat) d ρ S, xs[i]? = some d → I i ρ S → toN (g d ρ) S fun ρ1 S => WsE ES (b ρ1 S) (I (i + 1)) R N (I (i + 1))) (hn : ∀ ρ S, I xs.length ρ S → N ρ S) : WsE ES (dForL src g b ρ S) N R B C := by
  have go : ∀ (es : List D) (i : Nat) ρ S, i ≤ xs.length → xs.drop i = es → I i ρ S → WsE ES (fgL n xs g b es ρ S) N R B C := by
    intro es
    induction es with
    | nil =>
      intro i ρ S hi e2 h
      have hl2 : xs.length ≤ i := by simpa using e2
      obtain rfl : i = xs.length := Nat.le_antisymm hi hl2
      rw [fgL_nil (hl _ _ _ h)]
      exact hn _ _ h
    | cons d es ih =>
      intro i ρ S hi ee h
      have hd : xs[i]? = some d := by
        have z := congrArg (fun l => l[0]?) ee
        simpa using z
      have e2 : xs.drop (i + 1) = es := by rw [← List.drop_drop, ee]; rfl
      have i2 : i + 1 ≤ xs.length := (List.getElem?_eq_some_iff.mp hd).1
      have z := hs i d ρ S hd h
      rw [fgL_cons (hl _ _ _ h)]
      cases eg : g d ρ with
      | none => rw [eg] at z; exact z.elim
      | some ρ1 =>
        rw [eg] at z
        dsimp only
        have z : WsE ES (b ρ1 S) (I (i + 1)) R N (I (i + 1)) := z
        cases eb : b ρ1 S with
        | nx ρ2 S2 => rw [eb] at z; exact ih (i + 1) ρ2 S2 i2 e2 z
        | ct ρ2 S2 => rw [eb] at z; exact ih (i + 1) ρ2 S2 i2 e2 z
        | bk ρ2 S2 => rw [eb] at z; exact z
        | rt v S2 => rw [eb] at z; exact z
        | exc x ρ2 S2 => rw [eb] at z; exact z
        | bad => rw [eb] at z; exact z
  unfold dForL
  cases es : src ρ S with
  | bad => rw [es] at hsrc; exact hsrc.elim
  | exc x S1 => rw [es] at hsrc; exact hsrc
  | ok d S1 =>
    rw [es] at hsrc
    obtain ⟨rfl, rfl⟩ := hsrc
    show WsE ES (goFL g b ρ (.loc n) S1) N R B C
    unfold goFL
    dsimp only
    rw [e]
    exact go xs 0 ρ S1 (Nat.zero_le _) rfl h0
end DL

/-! DL: match of a text against written texts and _; methods with keyword-only defaults, called without. -/
namespace DL
open PySem PySem.Spec PyProof.Rows L2
variable {EX : XP} {ES : XPs}
/-! ### match -/
def tCases (y : Str) : List (Option Str × TS) → TS
  | [], D, σ, H => D.nx σ H
  | (none, t) :: _, D, σ, H => t D σ H
  | (some z, t) :: r, D, σ, H => if y = z then t D σ H else tCases y r D σ H
def tMatch (te : TE) (cs : List (Option Str × TS)) : TS := fun D σ H => te σ H fun x H1 => ∃ y, x = .str y ∧ tCases y cs D σ H1
/-- the cases of a match, each with its reading -/
inductive PMs (X : Cx) : List MatchCase → List (Option Str × TS) → Prop where
  | nil : PMs X [] []
  | str {z : Str} {n : Nat} {p1 p2 : Pos} {body : List Stmt} {t : TS} {cs : List MatchCase} {ts : List (Option Str × TS)} (h : PSs X body t) (r : PMs X cs ts) : PMs X (⟨.MatchValue (.Constant (.str z) n p1) p2, none, body⟩ :: cs) ((some z, t) :: ts)
  | wild {p : Pos} {body : List Stmt} {t : TS} {cs : List MatchCase} {ts : List (Option Str × TS)} (h : PSs X body t) (r : PMs X cs ts) : PMs X (⟨.MatchAs none none p, none, body⟩ :: cs) ((none, t) :: ts)
theorem pms_run {X : Cx} {y : Str} {tk : Tok} {pins : List (Addr × Obj)} {σ : L2.St} {D : Ends} {cs : List MatchCase} {ts : List (Option Str × TS)} (h : PMs X cs ts) : ∀ (s : Shared) (H : Hp) (b : Bool), Inv X pins σ H s → tCases y ts D σ H → wpAny (model X.prog X.w) X.A (matchCases cs X.env (.str y tk) b) (SP X pins D) X.xe s := by
  induction h with
  | nil => exact fun s H b I q => wpAny_matchCases_nil ⟨σ, H, I, q⟩
  | @str z n p1 p2 body t cs ts hb r ih =>
    intro s H b I q
    refine wpAny_matchCases_cons (wpAny_matchPattern_Value (thn ((pe_str (X := X) (x := z) (j := n) (pos := p1)).run pins s σ H (fun v H2 => v = .str z ∧ tCases y ((some z, t) :: ts) D σ H2) I ⟨rfl, q⟩) fun u s1 hu => ?_))
    obtain ⟨v, H1, I1, rv, rfl, q1⟩ := hu
    obtain ⟨t2, rfl⟩ := rv
    refine SeqAt.RcAt.str_str y tk z t2 _ _ _ _ (wpAny_truthy_bool ?_)
    by_cases e : y = z
    · rw [beq_iff_eq.mpr e, if_pos rfl]
      have q2 : t D σ H1 := by
        have q1 : (if y = z then t D σ H1 else tCases y ts D σ H1) := q1
        rwa [if_pos e] at q1
      exact wpAny_assignInOrder_none (hb.run pins s1 σ H1 D I1 q2)
    · rw [beq_eq_false_iff_ne.mpr e, if_neg Bool.false_ne_true]
      have q2 : tCases y ts D σ H1 := by
        have q1 : (if y = z then t D σ H1 else tCases y ts D σ H1) := q1
        rwa [if_neg e] at q1
      exact ih s1 H1 false I1 q2
  | @wild p body t cs ts hb r ih =>
    intro s H b I q
    refine wpAny_matchCases_cons (wpAny_matchPattern_Capture ?_)
    exact wpAny_assignInOrder_none (hb.run pins s σ H D I q)
theorem ps_match {X : Cx} {e : Expr} {te : TE} {cs : List MatchCase} {ts : List (Option Str × TS)} {pos : Pos} (he : PE X e te) (hc : PMs X cs ts) : PS X (.Match e cs pos) (tMatch te ts) := by
  refine ⟨fun pins s σ H D I h => ?_⟩
  refine wpAny_Match (thn (he.run pins s σ H _ I h) fun v s1 hv => ?_)
  obtain ⟨x, H1, I1, rx, y, rfl, q⟩ := hv
  obtain ⟨tk, rfl⟩ := rx
  exact pms_run hc s1 H1 true I1 q
def dCases (y : Str) : List (Option Str × St') → St'
  | [], ρ, S => .nx ρ S
  | (none, g) :: _, ρ, S => g ρ S
  | (some z, g) :: r, ρ, S => if y = z then g ρ S else dCases y r ρ S
def dMatch (ge : Ev D) (cs : List (Option Str × St')) : St' := fun ρ S => (ge ρ S).bindS ρ fun x S1 => match x with
  | .str y => dCases y cs ρ S1
  | _ => .bad
structure DMs (X : Cx) (cs : List MatchCase) (gs : List (Option Str × St')) : Prop where
  ex : ∀ W, Takes X W → ∃ ts, PMs X cs ts ∧ ∀ y σ H ρ S F m N, Slots X.K F m ρ σ → HSt X.K H S F m → SPost X.mg X.K H F m (dCases y gs ρ S) N W → tCases y ts N σ H
section
variable {X : Cx}
theorem dms_nil : DMs X [] [] := ⟨fun W tk => ⟨[], .nil, fun y σ H ρ S F m N sl h p => p σ H F m sl h (Ext.refl _ _ _)⟩⟩
theorem dms_str {z : Str} {n : Nat} {p1 p2 : Pos} {body : List Stmt} {g : St'} {cs : List MatchCase} {gs : List (Option Str × St')} (hb : DSs X body g) (hr : DMs X cs gs) : DMs X (⟨.MatchValue (.Constant (.str z) n p1) p2, none, body⟩ :: cs) ((some z, g) :: gs) := by
  refine ⟨fun W tk => ?_⟩
  obtain ⟨t, pt, rt⟩ := hb.ex W tk
  obtain ⟨ts, ps, rs⟩ := hr.ex W tk
  refine ⟨_, .str pt ps, fun y σ H ρ S F m N sl h p => ?_⟩
  unfold dCases at p
  unfold tCases
  by_cases e : y = z
  · rw [if_pos e] at p ⊢; exact rt σ H ρ S F m N sl h p
  · rw [if_neg e] at p ⊢; exact rs y σ H ρ S F m N sl h p
theorem dms_wild {p : Pos} {body : List Stmt} {g : St'} {cs : List MatchCase} {gs : List (Option Str × St')} (hb : DSs X body g) (hr : DMs X cs gs) : DMs X (⟨.MatchAs none none p, none, body⟩ :: cs) ((none, g) :: gs) := by
  refine ⟨fun W tk => ?_⟩
  obtain ⟨t, pt, rt⟩ := hb.ex W tk
  obtain ⟨ts, ps, rs⟩ := hr.ex W tk
  exact ⟨_, .wild pt ps, fun y σ H ρ S F m N sl h p => rt σ H ρ S F m N sl h p⟩
theorem ds_match {e : Expr} {ge : Ev D} {cs : List MatchCase} {gs : List (Option Str × St')} {pos : Pos} (he : DE X e ge) (hc : DMs X cs gs) : DS X (.Match e cs pos) (dMatch ge gs) := by
  refine ⟨fun W tk => ?_⟩
  obtain ⟨t, pt, rt⟩ := he.ex W tk
  obtain ⟨ts, ps, rs⟩ := hc.ex W tk
  refine ⟨_, ps_match pt ps, fun σ H ρ S F m N sl h p => ?_⟩
  refine rt σ H ρ S F m _ sl h (Post.bindS sl p fun d S1 v H1 F1 m1 h1 x1 r1 p1 => ?_)
  cases r1 with
  | str y hz => exact ⟨y, rfl, rs y σ H1 ρ S1 F1 m1 N (sl.le x1.le) h1 p1⟩
  | _ => exact p1.elim
end
theorem ws_match {ge : Ev D} {cs : List (Option Str × St')} {ρ : DEnv} {S : Sto} {N B C : DEnv → Sto → Prop} {R : D → Sto → Prop} (q : WpE (ES.at ρ) (ge ρ S) fun x S1 => ∃ y, x = .str y ∧ WsE ES (dCases y cs ρ S1) N R B C) : WsE ES (dMatch ge cs ρ S) N R B C := by
  unfold dMatch
  cases e : ge ρ S with
  | bad => rw [e] at q; exact q.elim
  | exc x S1 => rw [e] at q; exact q
  | ok x S1 =>
    rw [e] at q
    obtain ⟨y, rfl, q⟩ := q
    exact q
/-! ### defaults of keyword-only parameters -/
section
variable {P : Program} {w : World} {K : PySem.W.Frag} {mg : Str → Option Value} {base : Heap}
theorem fnGB {x qual : Str} {st : Stmt} {f : Addr} {fd : FuncData} {N ps : List Str} {k n : Nat} {g : St'} {dds : List D} {dvs : List V} {us0 : List Value} (Fn : Fun K x qual st f fd) (S : FnScope N ps (defScope st)) (hb : Binds K fd ps us0) (rel : Vals dvs us0)
    (hrep : ∀ F m, RepL K F m dds dvs) (hnp : n + dvs.length = ps.length)
    (hbody : ∀ (cdv : Value) (A : Around) (outer : List PySem.Env) (s : Shared) (H : Hp) (E : XK), XOk (bodyX P w K mg base N qual st f cdv A outer s H E) k → DSs (bodyX P w K mg base N qual st f cdv A outer s H E) (defBody st) g) :
    FnG P w K mg base (k + 1) f n (fun ds T => runB g N.length (ds ++ dds) T) := by
  obtain ⟨oc, od, kV, doc, pm, an, cdv, ct, osl, rfl, lk, hcd⟩ := Fn.ex
  refine ⟨fun A outer s H us vs Q E F m ds T room grd e0 rv hn hst rep post => ?_⟩
  have inK : K.In s.heap := e0.mod.kin.keeps fun b o q => (e0.bs b o q).1
  have unl : s.heap.NoLimit := e0.mod.nolimit.keeps fun b o q => (e0.bs b o q).1
  have rv2 : Vals (vs ++ dvs) (us ++ us0) := rv.append rel
  have hus : (us ++ us0).length = ps.length := by
    rw [← rv2.length, List.length_append, hn, hnp]
  have kinds : ∀ y ∈ ps.zip (us ++ us0), (defScope st).names.lookup y.1 = some .local ∨ ((defScope st).names.lookup y.1 = some .cell ∧ ((cellsFrom (s.heap.objs.size + 1) (defScope st).names []).lookup y.1).isSome = true) := by
    rintro ⟨y, v⟩ hy
    exact (S.par y (List.of_mem_zip hy).1).elim .inl fun q => .inr ⟨q, PySem.W.cellsFrom_some _ _ _ (.inl q)⟩
  refine codeAny_call_function room.depth (inK _ _ lk) rfl S.co S.gen rfl (PySem.W.codeRec_of inK hcd) (hb s us inK hus _ _ _ _ ?_)
  refine wpAny_newFunctionEnv_cells S.kind kinds fun env henv s1 entered => ?_
  subst henv
  refine ⟨unl.keeps entered.toInCall.keep, codeAny_func ?_⟩
  have rm := room.deeper (envOfC qual (defScope st) s.heap.objs.size f cdv)
  have ok : XOk (bodyX P w K mg base N qual st f cdv A outer s H E) k := ⟨rm, grd_deeper A _ grd, rfl, passes_of rfl, S.nd⟩
  obtain ⟨t, ht, rd⟩ := (hbody cdv A outer s H E ok).ex _ (takes_of rfl rfl rfl rfl)
  have I : Inv (bodyX P w K mg base N qual st f cdv A outer s H E) [] (L2.start N (vs ++ dvs)) H s1 := inv_start S room.hd e0 (by rw [List.length_append, hn, hnp]) rv2 entered
  have hvN : (vs ++ dvs).length ≤ N.length := by
    have z := congrArg List.length S.pre
    rw [List.length_take] at z
    rw [List.length_append]
    omega
  have want : SPost mg K H F m (g (startE N.length (ds ++ dds)) T) { nx := fun _ H' => Q .non H', rt := Q } (fun c d _ H' => E c d H') := by
    unfold runB endB at post
    cases eg : g (startE N.length (ds ++ dds)) T with
    | nx ρ S1 => rw [eg] at post; exact fun σ H' F' m' _ h1 x1 => post .non H' F' m' h1 x1 .non
    | rt d S1 => rw [eg] at post; exact post
    | exc y ρ S1 => rw [eg] at post; exact fun cv dx σ H' F' m' _ h1 x1 r1 => post cv dx H' F' m' h1 x1 r1
    | bk ρ S1 => rw [eg] at post; exact post.elim
    | ct ρ S1 => rw [eg] at post; exact post.elim
    | bad => rw [eg] at post; exact post.elim
  have hq := rd (L2.start N (vs ++ dvs)) H (startE N.length (ds ++ dds)) T F m _ (slots_start (rep.append (hrep F m)) hvN) hst want
  refine wpAny_mono (ht.run [] s1 (L2.start N (vs ++ dvs)) H _ I hq) (fun fl s' hs => ?_) fun e s' hs => hs
  cases fl with
  | next => obtain ⟨σ', H', J, q⟩ := hs; exact ⟨V.non, H', J.os, J.bare, J.base, J.hok, rfl, q⟩
  | ret u => obtain ⟨v, σ', H', J, rvu, q⟩ := hs; exact ⟨v, H', J.os, J.bare, J.base, J.hok, rvu, q⟩
  | brk => obtain ⟨_, _, _, q⟩ := hs; exact q.elim
  | cont => obtain ⟨_, _, _, q⟩ := hs; exact q.elim
end
theorem repNons {K : PySem.W.Frag} (F : Hp) (m : List Addr) : RepL K F m [D.non] [V.non] := .cons .non .nil
/-- the keyword-only defaults are None, each -/
inductive KwN (K : PySem.W.Frag) (D : Addr) : List (Str × V) → Prop where
  | nil : KwN K D []
  | cons {x : Str} {l : List (Str × V)} (h : PySem.W.nsIn K D x = some (some .none)) (r : KwN K D l) : KwN K D ((x, .non) :: l)
theorem KwN.all {K : PySem.W.Frag} {D : Addr} {l : List (Str × V)} (h : KwN K D l) : ∀ q ∈ l, ∃ u, PySem.W.nsIn K D q.1 = some (some u) ∧ RelV q.2 u := by
  induction h with
  | nil => exact fun q hq => (by cases hq)
  | @cons x l h r ih =>
    intro q hq
    rcases List.mem_cons.mp hq with rfl | hq
    · exact ⟨.none, h, rfl⟩
    · exact ih q hq
theorem funD_mk {K : PySem.W.Frag} {x qual : Str} {st : Stmt} {oc : Value} {od : Option Addr} {D : Addr} {doc pm : Value} {an : Option Addr} {cdv ct : Value} {osl : Array (Option Value)} {f : Addr} {kws : List (Str × V)}
    (l : K.lookup f = some ⟨oc, od, .func (PySem.W.fnOf x qual (defArgs st) (defBody st) (defScope st) .none (.ref D) doc pm an cdv ct), osl⟩) (c : PySem.W.codeIn K cdv qual = true) (k : PySem.W.keepIn K (.ref f) = true) (h : KwN K D kws) :
    L2.FunD K x qual (defArgs st) (defBody st) (defScope st) [] kws f (PySem.W.fnOf x qual (defArgs st) (defBody st) (defScope st) .none (.ref D) doc pm an cdv ct) :=
  ⟨⟨oc, od, .none, .ref D, doc, pm, an, cdv, ct, osl, rfl, l, c, .inl ⟨rfl, rfl⟩, .inr ⟨D, rfl, h.all⟩⟩, k⟩
end DL

namespace LK
open PySem PySem.Spec PyProof.Rows L2 DL
structure CLs where
  Party : Addr
def top (i : Nat) : Stmt := PySem.Challenge.pw_shoeparty_k36_parties_edited.main.body.getD i (.Pass ⟨0, 0, 0, 0⟩)
abbrev st_is_number : Stmt := top 20
abbrev st_is_size : Stmt := top 21
abbrev st_first_wrong : Stmt := top 22
abbrev st_hall_error : Stmt := top 23
abbrev st_counts_at : Stmt := top 25
abbrev st_sizes_to_try : Stmt := top 27
abbrev st_most_served : Stmt := top 28
abbrev st_fewest_served : Stmt := top 29
abbrev st_is_within : Stmt := top 44
abbrev st_with_guest : Stmt := top 45
abbrev st_without_guest : Stmt := top 46
abbrev st_with_pair : Stmt := top 47
abbrev st_without_pair : Stmt := top 48
abbrev st_Party___init__ : Stmt := inClass (top 49) 1
abbrev st_Party_hall : Stmt := inClass (top 49) 3
abbrev st_Party_most : Stmt := inClass (top 49) 4
abbrev st_Party_fewest : Stmt := inClass (top 49) 5
abbrev st_Party_accept : Stmt := inClass (top 49) 7
abbrev st_Party___len__ : Stmt := inClass (top 49) 8
abbrev st_Party___str__ : Stmt := inClass (top 49) 10
abbrev st_Party_require_idle : Stmt := inClass (top 49) 11
abbrev st_Party_state_after : Stmt := inClass (top 49) 12
abbrev st_Party_perform : Stmt := inClass (top 49) 13
abbrev st_Party_come : Stmt := inClass (top 49) 14
abbrev st_Party_leave : Stmt := inClass (top 49) 15
abbrev st_Party_put : Stmt := inClass (top 49) 16
abbrev st_Party_take : Stmt := inClass (top 49) 17
abbrev st_Party_hall_at : Stmt := inClass (top 49) 21
abbrev st_Party_state : Stmt := inClass (top 49) 22
abbrev st_Party_edits : Stmt := inClass (top 49) 25
abbrev st__law_deck : Stmt := top 51
abbrev st__law_draw : Stmt := top 52
abbrev st__law_sizes : Stmt := top 53
abbrev st__law_hall : Stmt := top 54
abbrev st__law_ends : Stmt := top 55
abbrev st__law_after : Stmt := top 56
abbrev st__law_edit : Stmt := top 57
abbrev st__law_do : Stmt := top 58
abbrev st__law_right : Stmt := top 59
abbrev st_law : Stmt := top 60
noncomputable def den_is_number : List D → Sto → Res D := runB (dSeq (dRet (dAndV (dCall fIsi (dCons (dVar 0) (dCons (dK (.ty "int")) dNil))) (dAndV (dNotV (dCall fIsi (dCons (dVar 0) (dCons (dK (.ty "bool")) dNil)))) (dBl (dCh fLe fLe (dVar 1) (dVar 0) (dVar 2))))))
  dNext) 3
noncomputable def den_is_size : List D → Sto → Res D := runB (dSeq (dRet (dCall den_is_number (dCons (dVar 0) (dCons (dK (.int 1)) (dCons (dK (.int 1000000)) dNil)))))
  dNext) 1
noncomputable def den_first_wrong : List D → Sto → Res D := runB (dSeq (dFor (dEnum (dCons (dVar 0) dNil)) (gT (gsC (gN 1) (gsC (gN 2) gsN))) (dSeq (dIfS (dNot (dVal (dCall den_is_size (dCons (dVar 2) dNil)))) (dSeq (dRet (dVar 1))
  dNext) dNext)
  dNext))
  (dSeq (dRet (dK .non))
  dNext)) 3
noncomputable def den_hall_error : List D → Sto → Res D := runB (dSeq (dIfS (dOr (dNot (dVal (dCall fIsi (dCons (dVar 0) (dCons (dK (.ty "tuple")) dNil))))) (dCm fNe (dCall fLen (dCons (dVar 0) dNil)) (dK (.int 2)))) (dSeq (dRet (dTup (dCons (dK .non) (dCons (dK (.str "hall")) dNil))))
  dNext) dNext)
  (dSeq (dAsg (dVar 0) (gT (gsC (gN 1) (gsC (gN 2) gsN))))
  (dSeq (dIfS (dOr (dNot (dVal (dCall fIsi (dCons (dVar 1) (dCons (dK (.ty "tuple")) dNil))))) (dNot (dCh fLe fLe (dK (.int 1)) (dCall fLen (dCons (dVar 1) dNil)) (dK (.int 20))))) (dSeq (dRet (dTup (dCons (dK .non) (dCons (dK (.str "feet")) dNil))))
  dNext) dNext)
  (dSeq (dSeq (dAsg (dCall den_first_wrong (dCons (dVar 1) dNil)) (gN 3)) (dIfS (dCm fNotN (dVar 3) (dK .non)) (dSeq (dRet (dTup (dCons (dVar 3) (dCons (dK (.str "foot")) dNil))))
  dNext) dNext))
  (dSeq (dIfS (dOr (dNot (dVal (dCall fIsi (dCons (dVar 2) (dCons (dK (.ty "tuple")) dNil))))) (dCm fGt (dCall fLen (dCons (dVar 2) dNil)) (dK (.int 20)))) (dSeq (dRet (dTup (dCons (dK .non) (dCons (dK (.str "pairs")) dNil))))
  dNext) dNext)
  (dSeq (dAsg (dCall den_first_wrong (dCons (dVar 2) dNil)) (gN 4))
  (dSeq (dRet (dIf (dCm fIsN (dVar 4) (dK .non)) (dK .non) (dTup (dCons (dVar 4) (dCons (dK (.str "pair")) dNil)))))
  dNext))))))) 5
noncomputable def den_counts_at : List D → Sto → Res D := runB (dSeq (dAsg (dVar 0) (gT (gsC (gN 2) (gsC (gN 3) gsN))))
  (dSeq (dRet (dTup (dCons (dCall fLen (dCons (dFz (dLc (dItems (dVar 2)) (gN 4) (dCm fLt (dVar 4) (dVar 1)) (dVar 4) [4])) dNil)) (dCons (dCall fLen (dCons (dFz (dLc (dItems (dVar 3)) (gN 5) (dCm fGe (dVar 5) (dVar 1)) (dVar 5) [5])) dNil)) dNil))))
  dNext)) 6
noncomputable def den_sizes_to_try : List D → Sto → Res D := runB (dSeq (dAsg (dVar 0) (gT (gsC (gN 1) (gsC (gN 2) gsN))))
  (dSeq (dRet (dFz (dSortSet2 (dFz (dDis (dCons (dK (.int 1)) (dStar (dFz (dLc (dItems (dTup (dStar (dVar 1) (dStar (dVar 2) dNil)))) (gN 3) dYes (dOp fAdd (dVar 3) (dK (.int 1))) [3])) dNil)))))))
  dNext)) 4
noncomputable def den_most_served : List D → Sto → Res D := runB (dSeq (dRet (dCall (orB (orB fMinL fMinP) (fExT false)) (dCons (dFz (dLc (dItems (dCall den_sizes_to_try (dCons (dVar 0) dNil))) (gN 1) dYes (dCall (orB fSum fSumT) (dCons (dCall den_counts_at (dCons (dVar 0) (dCons (dVar 1) dNil))) dNil)) [1])) dNil)))
  dNext) 2
noncomputable def den_fewest_served : List D → Sto → Res D := runB (dSeq (dRet (dCall (orB (orB fMinL fMinP) (fExT false)) (dCons (dFz (dLc (dItems (dCall den_sizes_to_try (dCons (dVar 0) dNil))) (gN 1) dYes (dCall (orB fMaxL (fExT true)) (dCons (dCall den_counts_at (dCons (dVar 0) (dCons (dVar 1) dNil))) dNil)) [1])) dNil)))
  dNext) 2
noncomputable def den_is_within : List D → Sto → Res D := runB (dSeq (dRet (dAndV (dCall fIsi (dCons (dVar 0) (dCons (dK (.ty "int")) dNil))) (dAndV (dNotV (dCall fIsi (dCons (dVar 0) (dCons (dK (.ty "bool")) dNil)))) (dBl (dCh fLe fLe (dVar 1) (dVar 0) (dVar 2))))))
  dNext) 3
noncomputable def den_with_guest : List D → Sto → Res D := runB (dSeq (dIfS (dNot (dVal (dCall den_is_within (dCons (dVar 1) (dCons (dK (.int 1)) (dCons (dK (.int 1000000)) dNil)))))) (dSeq dNever
  dNext) dNext)
  (dSeq (dIfS (dCm fGe (dCall fLen (dCons (dVar 0) dNil)) (dK (.int 20))) (dSeq dNever
  dNext) dNext)
  (dSeq (dRet (dTup (dStar (dVar 0) (dCons (dVar 1) dNil))))
  dNext))) 2
noncomputable def den_without_guest : List D → Sto → Res D := runB (dSeq (dIfS (dNot (dVal (dCall den_is_within (dCons (dVar 1) (dCons (dK (.int 0)) (dCons (dOp fSub (dCall fLen (dCons (dVar 0) dNil)) (dK (.int 1))) dNil)))))) (dSeq dNever
  dNext) dNext)
  (dSeq (dIfS (dCm fEq (dCall fLen (dCons (dVar 0) dNil)) (dK (.int 1))) (dSeq dNever
  dNext) dNext)
  (dSeq (dRet (dTup (dStar (dSl (dVar 0) oNone (oSome (dVar 1))) (dStar (dSl (dVar 0) (oSome (dOp fAdd (dVar 1) (dK (.int 1)))) oNone) dNil))))
  dNext))) 2
noncomputable def den_with_pair : List D → Sto → Res D := runB (dSeq (dIfS (dNot (dVal (dCall den_is_within (dCons (dVar 1) (dCons (dK (.int 1)) (dCons (dK (.int 1000000)) dNil)))))) (dSeq dNever
  dNext) dNext)
  (dSeq (dIfS (dCm fGe (dCall fLen (dCons (dVar 0) dNil)) (dK (.int 20))) (dSeq dNever
  dNext) dNext)
  (dSeq (dRet (dTup (dStar (dVar 0) (dCons (dVar 1) dNil))))
  dNext))) 2
noncomputable def den_without_pair : List D → Sto → Res D := runB (dSeq (dIfS (dNot (dVal (dCall den_is_within (dCons (dVar 1) (dCons (dK (.int 0)) (dCons (dOp fSub (dCall fLen (dCons (dVar 0) dNil)) (dK (.int 1))) dNil)))))) (dSeq dNever
  dNext) dNext)
  (dSeq (dRet (dTup (dStar (dSl (dVar 0) oNone (oSome (dVar 1))) (dStar (dSl (dVar 0) (oSome (dOp fAdd (dVar 1) (dK (.int 1)))) oNone) dNil))))
  dNext)) 2
noncomputable def den_Party___init__ (cl : CLs) : List D → Sto → Res D := runB (dSeq (dAsg (dCall den_hall_error (dCons (dVar 1) dNil)) (gN 2))
  (dSeq (dIfS (dCm fNotN (dVar 2) (dK .non)) (dSeq dNever
  dNext) dNext)
  (dSeq (dSetF cl.Party "states" (dVar 0) (dNw (dDis (dCons (dVar 1) dNil))))
  (dSeq (dSetF cl.Party "standing" (dVar 0) (dNw (dDis dNil)))
  (dSeq (dSetF cl.Party "watching" (dVar 0) (dK (.bl false)))
  (dSeq (dSetF cl.Party "ends" (dVar 0) (dNw (dDis (dCons (dTup (dCons (dCall den_fewest_served (dCons (dVar 1) dNil)) (dCons (dCall den_most_served (dCons (dVar 1) dNil)) dNil))) dNil))))
  dNext)))))) 3
noncomputable def den_Party_hall (cl : CLs) : List D → Sto → Res D := runB (dSeq (dRet (dOp fIx (dFld cl.Party "states" (dVar 0)) (dUn fNeg (dK (.int 1)))))
  dNext) 1
noncomputable def den_Party_most (cl : CLs) : List D → Sto → Res D := runB (dSeq (dRet (dOp fIx (dOp fIx (dFld cl.Party "ends" (dVar 0)) (dUn fNeg (dK (.int 1)))) (dK (.int 1))))
  dNext) 1
noncomputable def den_Party_fewest (cl : CLs) : List D → Sto → Res D := runB (dSeq (dRet (dOp fIx (dOp fIx (dFld cl.Party "ends" (dVar 0)) (dUn fNeg (dK (.int 1)))) (dK (.int 0))))
  dNext) 1
noncomputable def den_Party_accept : List D → Sto → Res D := runB (dSeq dNext
  dNext) 2
noncomputable def den_Party___len__ (cl : CLs) : List D → Sto → Res D := runB (dSeq (dRet (dCall fLen (dCons (dFld cl.Party "standing" (dVar 0)) dNil)))
  dNext) 1
noncomputable def den_Party___str__ (cl : CLs) : List D → Sto → Res D := runB (dSeq (dAsg (dOp fIx (dFld cl.Party "states" (dVar 0)) (dUn fNeg (dK (.int 1)))) (gT (gsC (gN 1) (gsC (gN 2) gsN))))
  (dSeq (dAsg (dOp fIx (dFld cl.Party "ends" (dVar 0)) (dUn fNeg (dK (.int 1)))) (gT (gsC (gN 3) (gsC (gN 4) gsN))))
  (dSeq (dRet (dJs (jCons (dFmt (dCall fLen (dCons (dVar 1) dNil))) (jCons (dK (.str " guests, ")) (jCons (dFmt (dCall fLen (dCons (dVar 2) dNil))) (jCons (dK (.str " pairs, served ")) (jCons (dFmt (dVar 3)) (jCons (dK (.str " to ")) (jCons (dFmt (dVar 4)) (jCons (dK (.str ", ")) (jCons (dFmt (dCall fLen (dCons (dFld cl.Party "standing" (dVar 0)) dNil))) (jCons (dK (.str " edits")) jNil))))))))))))
  dNext))) 5
noncomputable def den_Party_require_idle (cl : CLs) : List D → Sto → Res D := runB (dSeq (dIfS (dVal (dFld cl.Party "watching" (dVar 0))) (dSeq dNever
  dNext) dNext)
  dNext) 1
noncomputable def den_Party_state_after (cl : CLs) : List D → Sto → Res D := runB (dSeq (dAsg (dOp fIx (dFld cl.Party "states" (dVar 0)) (dUn fNeg (dK (.int 1)))) (gT (gsC (gN 2) (gsC (gN 3) gsN))))
  (dSeq (dAsg (dVar 1) (gT (gsC (gN 4) (gsC (gN 5) gsN))))
  (dSeq (dMatch (dVar 4) ((some "come", (dSeq (dAsg (dCall den_with_guest (dCons (dVar 2) (dCons (dVar 5) dNil))) (gN 2))
  dNext)) :: ((some "leave", (dSeq (dAsg (dCall den_without_guest (dCons (dVar 2) (dCons (dVar 5) dNil))) (gN 2))
  dNext)) :: ((some "put", (dSeq (dAsg (dCall den_with_pair (dCons (dVar 3) (dCons (dVar 5) dNil))) (gN 3))
  dNext)) :: ((none, (dSeq (dAsg (dCall den_without_pair (dCons (dVar 3) (dCons (dVar 5) dNil))) (gN 3))
  dNext)) :: [])))))
  (dSeq (dRet (dTup (dCons (dVar 2) (dCons (dVar 3) dNil))))
  dNext)))) 6
noncomputable def den_Party_perform (cl : CLs) : List D → Sto → Res D := runB (dSeq (dIfS (dCm fGe (dCall fLen (dCons (dFld cl.Party "standing" (dVar 0)) dNil)) (dK (.int 60))) (dSeq dNever
  dNext) dNext)
  (dSeq (dAsg (dMeth cl.Party "state_after" (den_Party_state_after cl) (dVar 0) (dCons (dVar 1) dNil)) (gN 2))
  (dSeq (dAsg (dCall den_fewest_served (dCons (dVar 2) dNil)) (gN 3))
  (dSeq (dDrop (dMeth cl.Party "accept" den_Party_accept (dVar 0) (dCons (dVar 3) dNil)))
  (dSeq (dDrop (dMl fAppend (dFld cl.Party "states" (dVar 0)) (dCons (dVar 2) dNil)))
  (dSeq (dDrop (dMl fAppend (dFld cl.Party "ends" (dVar 0)) (dCons (dTup (dCons (dVar 3) (dCons (dCall den_most_served (dCons (dVar 2) dNil)) dNil))) dNil)))
  (dSeq (dDrop (dMl fAppend (dFld cl.Party "standing" (dVar 0)) (dCons (dVar 1) dNil)))
  (dSeq (dRet (dCall fLen (dCons (dFld cl.Party "standing" (dVar 0)) dNil)))
  dNext)))))))) 4
noncomputable def den_Party_come (cl : CLs) : List D → Sto → Res D := runB (dSeq (dDrop (dMeth0 cl.Party "require_idle" (den_Party_require_idle cl) (dVar 0)))
  (dSeq (dRet (dMeth cl.Party "perform" (den_Party_perform cl) (dVar 0) (dCons (dTup (dCons (dK (.str "come")) (dCons (dVar 1) dNil))) dNil)))
  dNext)) 2
noncomputable def den_Party_leave (cl : CLs) : List D → Sto → Res D := runB (dSeq (dDrop (dMeth0 cl.Party "require_idle" (den_Party_require_idle cl) (dVar 0)))
  (dSeq (dRet (dMeth cl.Party "perform" (den_Party_perform cl) (dVar 0) (dCons (dTup (dCons (dK (.str "leave")) (dCons (dVar 1) dNil))) dNil)))
  dNext)) 2
noncomputable def den_Party_put (cl : CLs) : List D → Sto → Res D := runB (dSeq (dDrop (dMeth0 cl.Party "require_idle" (den_Party_require_idle cl) (dVar 0)))
  (dSeq (dRet (dMeth cl.Party "perform" (den_Party_perform cl) (dVar 0) (dCons (dTup (dCons (dK (.str "put")) (dCons (dVar 1) dNil))) dNil)))
  dNext)) 2
noncomputable def den_Party_take (cl : CLs) : List D → Sto → Res D := runB (dSeq (dDrop (dMeth0 cl.Party "require_idle" (den_Party_require_idle cl) (dVar 0)))
  (dSeq (dRet (dMeth cl.Party "perform" (den_Party_perform cl) (dVar 0) (dCons (dTup (dCons (dK (.str "take")) (dCons (dVar 1) dNil))) dNil)))
  dNext)) 2
noncomputable def den_Party_hall_at (cl : CLs) : List D → Sto → Res D := runB (dSeq (dIfS (dCm fIsN (dVar 1) (dK .non)) (dSeq (dRet (dOp fIx (dFld cl.Party "states" (dVar 0)) (dUn fNeg (dK (.int 1)))))
  dNext) dNext)
  (dSeq (dIfS (dNot (dVal (dCall den_is_within (dCons (dVar 1) (dCons (dK (.int 0)) (dCons (dCall fLen (dCons (dFld cl.Party "standing" (dVar 0)) dNil)) dNil)))))) (dSeq dNever
  dNext) dNext)
  (dSeq (dRet (dOp fIx (dFld cl.Party "states" (dVar 0)) (dVar 1)))
  dNext))) 2
noncomputable def den_Party_state (cl : CLs) : List D → Sto → Res D := fun ds S => runB (dSeq (dRet (dMeth cl.Party "hall_at" (den_Party_hall_at cl) (dVar 0) (dCons (dVar 1) dNil)))
  dNext) 2 (ds ++ [.non]) S
noncomputable def den_Party_edits (cl : CLs) : List D → Sto → Res D := runB (dSeq (dRet (dCall fTuple (dCons (dFld cl.Party "standing" (dVar 0)) dNil)))
  dNext) 1
noncomputable def den__law_deck : List D → Sto → Res D := runB (dSeq (dRet (dNw (dDis (dCons (dNw (dLc (dItems (dSl (dVar 0) oNone (oSome (dK (.int 63))))) (gN 1) dYes (dCall fAbs (dCons (dVar 1) dNil)) [1])) (dCons (dK (.int 0)) dNil)))))
  dNext) 2
noncomputable def den__law_draw : List D → Sto → Res D := runB (dSeq (dSub (dOp fAdd (dOp fIx (dVar 0) (dK (.int 1))) (dK (.int 1))) (dVar 0) (dK (.int 1)))
  (dSeq (dAsg (dK (.int 0)) (gN 2))
  (dSeq (dAsg (dUn fNeg (dK (.int 1))) (gN 3))
  (dSeq (dIfS (dCm fGt (dCall fLen (dCons (dOp fIx (dVar 0) (dK (.int 0))) dNil)) (dK (.int 0))) (dSeq (dAsg (dOp fMod (dOp fIx (dVar 0) (dK (.int 1))) (dCall fLen (dCons (dOp fIx (dVar 0) (dK (.int 0))) dNil))) (gN 3))
  (dSeq (dAsg (dOp fIx (dOp fIx (dVar 0) (dK (.int 0))) (dVar 3)) (gN 2))
  dNext)) dNext)
  (dSeq (dIfS (dCm fGe (dVar 2) (dOp fPow (dK (.int 10)) (dK (.int 18)))) (dSeq (dSub (dOp fDiv (dVar 2) (dVar 1)) (dOp fIx (dVar 0) (dK (.int 0))) (dVar 3))
  (dSeq (dRet (dOp fMod (dVar 2) (dVar 1)))
  dNext)) dNext)
  (dSeq (dRet (dOp fMod (dOp fMod (dOp fPow (dOp fAdd (dOp fAdd (dOp fMod (dVar 2) (dK (.int 2147483587))) (dOp fMul (dK (.int 7919)) (dOp fIx (dVar 0) (dK (.int 1))))) (dK (.int 1))) (dK (.int 5))) (dK (.int 2147483647))) (dVar 1)))
  dNext)))))) 4
noncomputable def den__law_sizes : List D → Sto → Res D := runB (dSeq (dRet (dCall fTuple (dCons (dFz (dLc (dRange (dCons (dVar 1) dNil)) (gN 3) dYes (dOp fAdd (dK (.int 1)) (dCall den__law_draw (dCons (dVar 0) (dCons (dOp fIx (dFz (dDis (dCons (dK (.int 4)) (dCons (dK (.int 25)) (dCons (dOp fPow (dK (.int 10)) (dK (.int 6))) dNil))))) (dVar 2)) dNil)))) [3])) dNil)))
  dNext) 4
noncomputable def den__law_hall : List D → Sto → Res D := runB (dSeq (dAsg (dCall den__law_draw (dCons (dVar 0) (dCons (dK (.int 3)) dNil))) (gN 2))
  (dSeq (dRet (dTup (dCons (dCall den__law_sizes (dCons (dVar 0) (dCons (dOp fAdd (dK (.int 1)) (dCall den__law_draw (dCons (dVar 0) (dCons (dVar 1) dNil)))) (dCons (dVar 2) dNil)))) (dCons (dCall den__law_sizes (dCons (dVar 0) (dCons (dCall den__law_draw (dCons (dVar 0) (dCons (dOp fAdd (dVar 1) (dK (.int 1))) dNil))) (dCons (dVar 2) dNil)))) dNil))))
  dNext)) 3
noncomputable def den__law_ends : List D → Sto → Res D := runB (dSeq (dAsg (dVar 0) (gT (gsC (gN 1) (gsC (gN 2) gsN))))
  (dSeq (dPar 3 4 (dCons (dFz (dCallN fSrt (dCons (dVar 1) dNil))) (dCons (dFz (dRevL (dFz (dCallN fSrt (dCons (dVar 2) dNil))))) dNil)))
  (dSeq (dAsg (dCall fLen (dCons (dFz (dLc (dZipB (dCons (dVar 3) (dCons (dVar 4) dNil))) (gT (gsC (gN 9) (gsC (gN 10) gsN))) (dCm fGe (dVar 10) (dVar 9)) (dK (.int 1)) [9, 10])) dNil)) (gN 5))
  (dSeq (dAsg (dNw (dDis (dCons (dCall fLen (dCons (dVar 1) dNil)) dNil))) (gN 6))
  (dSeq (dFor (dItems (dOp fAdd (dVar 1) (dVar 2))) (gN 7) (dSeq (dFor (dItems (dTup (dCons (dVar 7) (dCons (dOp fAdd (dVar 7) (dK (.int 1))) dNil)))) (gN 8) (dSeq (dDrop (dMl fAppend (dVar 6) (dCons (dOp fAdd (dCall fLen (dCons (dFz (dLc (dItems (dVar 1)) (gN 9) (dCm fLt (dVar 9) (dVar 8)) (dK (.int 1)) [9])) dNil)) (dCall fLen (dCons (dFz (dLc (dItems (dVar 2)) (gN 10) (dCm fGe (dVar 10) (dVar 8)) (dK (.int 1)) [10])) dNil))) dNil)))
  dNext))
  dNext))
  (dSeq (dRet (dFz (dDis (dCons (dVar 5) (dCons (dCall (orB (orB fMinL fMinP) (fExT false)) (dCons (dVar 6) dNil)) dNil)))))
  dNext)))))) 11
noncomputable def den__law_after : List D → Sto → Res D := runB (dSeq (dAsg (dVar 0) (gT (gsC (gN 2) (gsC (gN 3) gsN))))
  (dSeq (dIfS (dCm fEq (dOp fIx (dVar 1) (dK (.int 0))) (dK (.str "come"))) (dSeq (dRet (dTup (dCons (dOp fAdd (dVar 2) (dTup (dCons (dOp fIx (dVar 1) (dK (.int 1))) dNil))) (dCons (dVar 3) dNil))))
  dNext) dNext)
  (dSeq (dIfS (dCm fEq (dOp fIx (dVar 1) (dK (.int 0))) (dK (.str "leave"))) (dSeq (dRet (dTup (dCons (dOp fAdd (dSl (dVar 2) oNone (oSome (dOp fIx (dVar 1) (dK (.int 1))))) (dSl (dVar 2) (oSome (dOp fAdd (dOp fIx (dVar 1) (dK (.int 1))) (dK (.int 1)))) oNone)) (dCons (dVar 3) dNil))))
  dNext) dNext)
  (dSeq (dIfS (dCm fEq (dOp fIx (dVar 1) (dK (.int 0))) (dK (.str "put"))) (dSeq (dRet (dTup (dCons (dVar 2) (dCons (dOp fAdd (dVar 3) (dTup (dCons (dOp fIx (dVar 1) (dK (.int 1))) dNil))) dNil))))
  dNext) dNext)
  (dSeq (dRet (dTup (dCons (dVar 2) (dCons (dOp fAdd (dSl (dVar 3) oNone (oSome (dOp fIx (dVar 1) (dK (.int 1))))) (dSl (dVar 3) (oSome (dOp fAdd (dOp fIx (dVar 1) (dK (.int 1))) (dK (.int 1)))) oNone)) dNil))))
  dNext))))) 4
noncomputable def den__law_edit : List D → Sto → Res D := runB (dSeq (dAsg (dVar 1) (gT (gsC (gN 2) (gsC (gN 3) gsN))))
  (dSeq (dPar 4 5 (dCons (dCall den__law_draw (dCons (dVar 0) (dCons (dK (.int 6)) dNil))) (dCons (dOp fAdd (dK (.int 1)) (dCall den__law_draw (dCons (dVar 0) (dCons (dOp fIx (dFz (dDis (dCons (dK (.int 4)) (dCons (dK (.int 25)) (dCons (dOp fPow (dK (.int 10)) (dK (.int 6))) dNil))))) (dCall den__law_draw (dCons (dVar 0) (dCons (dK (.int 3)) dNil)))) dNil)))) dNil)))
  (dSeq (dIfS (dOr (dAnd (dCm fEq (dVar 4) (dK (.int 0))) (dCm fGt (dCall fLen (dCons (dVar 2) dNil)) (dK (.int 1)))) (dAnd (dCm fEq (dCall fLen (dCons (dVar 2) dNil)) (dK (.int 20))) (dCm fLt (dVar 4) (dK (.int 3))))) (dSeq (dRet (dTup (dCons (dK (.str "leave")) (dCons (dCall den__law_draw (dCons (dVar 0) (dCons (dCall fLen (dCons (dVar 2) dNil)) dNil))) dNil))))
  dNext) dNext)
  (dSeq (dIfS (dCm fLt (dVar 4) (dK (.int 3))) (dSeq (dRet (dTup (dCons (dK (.str "come")) (dCons (dVar 5) dNil))))
  dNext) dNext)
  (dSeq (dIfS (dOr (dAnd (dCm fEq (dVar 4) (dK (.int 3))) (dCm fNe (dVar 3) (dTup dNil))) (dCm fEq (dCall fLen (dCons (dVar 3) dNil)) (dK (.int 20)))) (dSeq (dRet (dTup (dCons (dK (.str "take")) (dCons (dCall den__law_draw (dCons (dVar 0) (dCons (dCall fLen (dCons (dVar 3) dNil)) dNil))) dNil))))
  dNext) dNext)
  (dSeq (dRet (dTup (dCons (dK (.str "put")) (dCons (dVar 5) dNil))))
  dNext)))))) 6
noncomputable def den__law_do (cl : CLs) : List D → Sto → Res D := runB (dSeq (dIfS (dCm fEq (dOp fIx (dVar 1) (dK (.int 0))) (dK (.str "come"))) (dSeq (dRet (dMeth cl.Party "come" (den_Party_come cl) (dVar 0) (dCons (dOp fIx (dVar 1) (dK (.int 1))) dNil)))
  dNext) dNext)
  (dSeq (dIfS (dCm fEq (dOp fIx (dVar 1) (dK (.int 0))) (dK (.str "leave"))) (dSeq (dRet (dMeth cl.Party "leave" (den_Party_leave cl) (dVar 0) (dCons (dOp fIx (dVar 1) (dK (.int 1))) dNil)))
  dNext) dNext)
  (dSeq (dIfS (dCm fEq (dOp fIx (dVar 1) (dK (.int 0))) (dK (.str "put"))) (dSeq (dRet (dMeth cl.Party "put" (den_Party_put cl) (dVar 0) (dCons (dOp fIx (dVar 1) (dK (.int 1))) dNil)))
  dNext) dNext)
  (dSeq (dRet (dMeth cl.Party "take" (den_Party_take cl) (dVar 0) (dCons (dOp fIx (dVar 1) (dK (.int 1))) dNil)))
  dNext)))) 2
noncomputable def den__law_right (cl : CLs) : List D → Sto → Res D := runB (dSeq (dUnp (dCall den__law_ends (dCons (dVar 1) dNil)) (gsC (gN 3) (gsC (gN 4) gsN)))
  (dSeq (dAsg (dFz (dDis (dCons (dProp cl.Party (den_Party_hall cl) (dVar 0)) (dCons (dProp cl.Party (den_Party_fewest cl) (dVar 0)) (dCons (dProp cl.Party (den_Party_most cl) (dVar 0)) (dCons (dMeth0 cl.Party "state" (den_Party_state cl) (dVar 0)) (dCons (dMeth0 cl.Party "edits" (den_Party_edits cl) (dVar 0)) (dCons (dCall (fOwn1 cl.Party (den_Party___len__ cl) lenBk) (dCons (dVar 0) dNil)) dNil)))))))) (gN 5))
  (dSeq (dIfS (dCm fNe (dCall fRepr (dCons (dVar 5) dNil)) (dCall fRepr (dCons (dFz (dDis (dCons (dVar 1) (dCons (dVar 3) (dCons (dVar 4) (dCons (dVar 1) (dCons (dCall fTuple (dCons (dVar 2) dNil)) (dCons (dCall fLen (dCons (dVar 2) dNil)) dNil)))))))) dNil))) (dSeq (dRet (dK (.bl false)))
  dNext) dNext)
  (dSeq (dAsg (dFz (dDis (dCons (dCall fStrI (dCons (dCall fLen (dCons (dOp fIx (dVar 1) (dK (.int 0))) dNil)) dNil)) (dCons (dK (.str "guests,")) (dCons (dCall fStrI (dCons (dCall fLen (dCons (dOp fIx (dVar 1) (dK (.int 1))) dNil)) dNil)) (dCons (dK (.str "pairs, served")) (dCons (dCall fStrI (dCons (dVar 3) dNil)) (dCons (dK (.str "to")) (dCons (dOp fAdd (dCall fStrI (dCons (dVar 4) dNil)) (dK (.str ","))) dNil))))))))) (gN 6))
  (dSeq (dRet (dBl (dCm fEq (dCall (fOwn1 cl.Party (den_Party___str__ cl) strBk) (dCons (dVar 0) dNil)) (dJoin (dK (.str " ")) (dOp fAdd (dVar 6) (dFz (dDis (dCons (dCall fStrI (dCons (dCall fLen (dCons (dVar 2) dNil)) dNil)) (dCons (dK (.str "edits")) dNil)))))))))
  dNext))))) 7
noncomputable def den_law (cl : CLs) : List D → Sto → Res D := runB (dSeq (dAsg (dCall den__law_deck (dCons (dVar 0) dNil)) (gN 1))
  (dSeq (dFor (dRange (dCons (dK (.int 3)) dNil)) (gN 2) (dSeq (dPar 3 4 (dCons (dCall den__law_hall (dCons (dVar 1) (dCons (dOp fIx (dFz (dDis (dCons (dK (.int 5)) (dCons (dK (.int 12)) (dCons (dK (.int 20)) dNil))))) (dVar 2)) dNil))) (dCons (dNw (dDis dNil)) dNil)))
  (dSeq (dAsg (dMake cl.Party (den_Party___init__ cl) (dCons (dVar 3) dNil)) (gN 5))
  (dSeq (dFor (dRange (dCons (dOp fAdd (dK (.int 1)) (dCall den__law_draw (dCons (dVar 1) (dCons (dK (.int 18)) dNil)))) dNil)) (gN 6) (dSeq (dDrop (dMl fAppend (dVar 4) (dCons (dCall den__law_edit (dCons (dVar 1) (dCons (dVar 3) dNil))) dNil)))
  (dSeq (dAsg (dCall den__law_after (dCons (dVar 3) (dCons (dOp fIx (dVar 4) (dUn fNeg (dK (.int 1)))) dNil))) (gN 3))
  (dSeq (dIfS (dOr (dCm fNe (dCall fRepr (dCons (dCall (den__law_do cl) (dCons (dVar 5) (dCons (dOp fIx (dVar 4) (dUn fNeg (dK (.int 1)))) dNil))) dNil)) (dCall fRepr (dCons (dCall fLen (dCons (dVar 4) dNil)) dNil))) (dNot (dVal (dCall (den__law_right cl) (dCons (dVar 5) (dCons (dVar 3) (dCons (dVar 4) dNil))))))) (dSeq (dRet (dK (.bl false)))
  dNext) dNext)
  dNext))))
  dNext))))
  (dSeq (dRet (dK (.bl true)))
  dNext))) 7
structure Tab (cl : CLs) (K : PySem.W.Frag) (mg : Str → Option Value) where
  a_is_number : Addr
  d_is_number : FuncData
  m_is_number : mg "is_number" = some (.ref a_is_number)
  f_is_number : Fun K "is_number" "is_number" st_is_number a_is_number d_is_number
  a_is_size : Addr
  d_is_size : FuncData
  m_is_size : mg "is_size" = some (.ref a_is_size)
  f_is_size : Fun K "is_size" "is_size" st_is_size a_is_size d_is_size
  a_first_wrong : Addr
  d_first_wrong : FuncData
  m_first_wrong : mg "first_wrong" = some (.ref a_first_wrong)
  f_first_wrong : Fun K "first_wrong" "first_wrong" st_first_wrong a_first_wrong d_first_wrong
  a_hall_error : Addr
  d_hall_error : FuncData
  m_hall_error : mg "hall_error" = some (.ref a_hall_error)
  f_hall_error : Fun K "hall_error" "hall_error" st_hall_error a_hall_error d_hall_error
  a_counts_at : Addr
  d_counts_at : FuncData
  m_counts_at : mg "counts_at" = some (.ref a_counts_at)
  f_counts_at : Fun K "counts_at" "counts_at" st_counts_at a_counts_at d_counts_at
  a_sizes_to_try : Addr
  d_sizes_to_try : FuncData
  m_sizes_to_try : mg "sizes_to_try" = some (.ref a_sizes_to_try)
  f_sizes_to_try : Fun K "sizes_to_try" "sizes_to_try" st_sizes_to_try a_sizes_to_try d_sizes_to_try
  a_most_served : Addr
  d_most_served : FuncData
  m_most_served : mg "most_served" = some (.ref a_most_served)
  f_most_served : Fun K "most_served" "most_served" st_most_served a_most_served d_most_served
  a_fewest_served : Addr
  d_fewest_served : FuncData
  m_fewest_served : mg "fewest_served" = some (.ref a_fewest_served)
  f_fewest_served : Fun K "fewest_served" "fewest_served" st_fewest_served a_fewest_served d_fewest_served
  a_is_within : Addr
  d_is_within : FuncData
  m_is_within : mg "is_within" = some (.ref a_is_within)
  f_is_within : Fun K "is_within" "is_within" st_is_within a_is_within d_is_within
  a_with_guest : Addr
  d_with_guest : FuncData
  m_with_guest : mg "with_guest" = some (.ref a_with_guest)
  f_with_guest : Fun K "with_guest" "with_guest" st_with_guest a_with_guest d_with_guest
  a_without_guest : Addr
  d_without_guest : FuncData
  m_without_guest : mg "without_guest" = some (.ref a_without_guest)
  f_without_guest : Fun K "without_guest" "without_guest" st_without_guest a_without_guest d_without_guest
  a_with_pair : Addr
  d_with_pair : FuncData
  m_with_pair : mg "with_pair" = some (.ref a_with_pair)
  f_with_pair : Fun K "with_pair" "with_pair" st_with_pair a_with_pair d_with_pair
  a_without_pair : Addr
  d_without_pair : FuncData
  m_without_pair : mg "without_pair" = some (.ref a_without_pair)
  f_without_pair : Fun K "without_pair" "without_pair" st_without_pair a_without_pair d_without_pair
  a_Party___init__ : Addr
  d_Party___init__ : FuncData
  f_Party___init__ : Fun K "__init__" "Party.__init__" st_Party___init__ a_Party___init__ d_Party___init__
  a_Party_hall : Addr
  d_Party_hall : FuncData
  f_Party_hall : Fun K "hall" "Party.hall" st_Party_hall a_Party_hall d_Party_hall
  a_Party_most : Addr
  d_Party_most : FuncData
  f_Party_most : Fun K "most" "Party.most" st_Party_most a_Party_most d_Party_most
  a_Party_fewest : Addr
  d_Party_fewest : FuncData
  f_Party_fewest : Fun K "fewest" "Party.fewest" st_Party_fewest a_Party_fewest d_Party_fewest
  a_Party_accept : Addr
  d_Party_accept : FuncData
  f_Party_accept : Fun K "accept" "Party.accept" st_Party_accept a_Party_accept d_Party_accept
  a_Party___len__ : Addr
  d_Party___len__ : FuncData
  f_Party___len__ : Fun K "__len__" "Party.__len__" st_Party___len__ a_Party___len__ d_Party___len__
  a_Party___str__ : Addr
  d_Party___str__ : FuncData
  f_Party___str__ : Fun K "__str__" "Party.__str__" st_Party___str__ a_Party___str__ d_Party___str__
  a_Party_require_idle : Addr
  d_Party_require_idle : FuncData
  f_Party_require_idle : Fun K "require_idle" "Party.require_idle" st_Party_require_idle a_Party_require_idle d_Party_require_idle
  a_Party_state_after : Addr
  d_Party_state_after : FuncData
  f_Party_state_after : Fun K "state_after" "Party.state_after" st_Party_state_after a_Party_state_after d_Party_state_after
  a_Party_perform : Addr
  d_Party_perform : FuncData
  f_Party_perform : Fun K "perform" "Party.perform" st_Party_perform a_Party_perform d_Party_perform
  a_Party_come : Addr
  d_Party_come : FuncData
  f_Party_come : Fun K "come" "Party.come" st_Party_come a_Party_come d_Party_come
  a_Party_leave : Addr
  d_Party_leave : FuncData
  f_Party_leave : Fun K "leave" "Party.leave" st_Party_leave a_Party_leave d_Party_leave
  a_Party_put : Addr
  d_Party_put : FuncData
  f_Party_put : Fun K "put" "Party.put" st_Party_put a_Party_put d_Party_put
  a_Party_take : Addr
  d_Party_take : FuncData
  f_Party_take : Fun K "take" "Party.take" st_Party_take a_Party_take d_Party_take
  a_Party_hall_at : Addr
  d_Party_hall_at : FuncData
  f_Party_hall_at : Fun K "hall_at" "Party.hall_at" st_Party_hall_at a_Party_hall_at d_Party_hall_at
  a_Party_state : Addr
  d_Party_state : FuncData
  f_Party_state : Fun K "state" "Party.state" st_Party_state a_Party_state d_Party_state
  a_Party_edits : Addr
  d_Party_edits : FuncData
  f_Party_edits : Fun K "edits" "Party.edits" st_Party_edits a_Party_edits d_Party_edits
  a__law_deck : Addr
  d__law_deck : FuncData
  m__law_deck : mg "_law_deck" = some (.ref a__law_deck)
  f__law_deck : Fun K "_law_deck" "_law_deck" st__law_deck a__law_deck d__law_deck
  a__law_draw : Addr
  d__law_draw : FuncData
  m__law_draw : mg "_law_draw" = some (.ref a__law_draw)
  f__law_draw : Fun K "_law_draw" "_law_draw" st__law_draw a__law_draw d__law_draw
  a__law_sizes : Addr
  d__law_sizes : FuncData
  m__law_sizes : mg "_law_sizes" = some (.ref a__law_sizes)
  f__law_sizes : Fun K "_law_sizes" "_law_sizes" st__law_sizes a__law_sizes d__law_sizes
  a__law_hall : Addr
  d__law_hall : FuncData
  m__law_hall : mg "_law_hall" = some (.ref a__law_hall)
  f__law_hall : Fun K "_law_hall" "_law_hall" st__law_hall a__law_hall d__law_hall
  a__law_ends : Addr
  d__law_ends : FuncData
  m__law_ends : mg "_law_ends" = some (.ref a__law_ends)
  f__law_ends : Fun K "_law_ends" "_law_ends" st__law_ends a__law_ends d__law_ends
  a__law_after : Addr
  d__law_after : FuncData
  m__law_after : mg "_law_after" = some (.ref a__law_after)
  f__law_after : Fun K "_law_after" "_law_after" st__law_after a__law_after d__law_after
  a__law_edit : Addr
  d__law_edit : FuncData
  m__law_edit : mg "_law_edit" = some (.ref a__law_edit)
  f__law_edit : Fun K "_law_edit" "_law_edit" st__law_edit a__law_edit d__law_edit
  a__law_do : Addr
  d__law_do : FuncData
  m__law_do : mg "_law_do" = some (.ref a__law_do)
  f__law_do : Fun K "_law_do" "_law_do" st__law_do a__law_do d__law_do
  a__law_right : Addr
  d__law_right : FuncData
  m__law_right : mg "_law_right" = some (.ref a__law_right)
  f__law_right : Fun K "_law_right" "_law_right" st__law_right a__law_right d__law_right
  a_law : Addr
  d_law : FuncData
  m_law : mg "law" = some (.ref a_law)
  f_law : Fun K "law" "law" st_law a_law d_law
  m_Party : mg "Party" = some (.ref cl.Party)
  c_Party : Cls K cl.Party
  k_Party : Mk K cl.Party a_Party___init__
  me_Party___len__ : Meth K cl.Party "__len__" a_Party___len__
  me_Party___str__ : Meth K cl.Party "__str__" a_Party___str__
  me_Party_accept : Meth K cl.Party "accept" a_Party_accept
  me_Party_come : Meth K cl.Party "come" a_Party_come
  me_Party_edits : Meth K cl.Party "edits" a_Party_edits
  me_Party_hall_at : Meth K cl.Party "hall_at" a_Party_hall_at
  me_Party_leave : Meth K cl.Party "leave" a_Party_leave
  me_Party_perform : Meth K cl.Party "perform" a_Party_perform
  me_Party_put : Meth K cl.Party "put" a_Party_put
  me_Party_require_idle : Meth K cl.Party "require_idle" a_Party_require_idle
  me_Party_state : Meth K cl.Party "state" a_Party_state
  me_Party_state_after : Meth K cl.Party "state_after" a_Party_state_after
  me_Party_take : Meth K cl.Party "take" a_Party_take
  q_Party_fewest : Addr
  p_Party_fewest : PropOf K cl.Party "fewest" q_Party_fewest a_Party_fewest
  q_Party_hall : Addr
  p_Party_hall : PropOf K cl.Party "hall" q_Party_hall a_Party_hall
  q_Party_most : Addr
  p_Party_most : PropOf K cl.Party "most" q_Party_most a_Party_most
  n_Party_ends : NoAttr K cl.Party "ends"
  n_Party_standing : NoAttr K cl.Party "standing"
  n_Party_states : NoAttr K cl.Party "states"
  n_Party_watching : NoAttr K cl.Party "watching"
  fd_Party_state : L2.FunD K "state" "Party.state" (defArgs st_Party_state) (defBody st_Party_state) (defScope st_Party_state) [] [("version", .non)] a_Party_state d_Party_state
  t_MAX_EDITS : Tok
  m_MAX_EDITS : mg "MAX_EDITS" = some (.int 60 t_MAX_EDITS)
  t_MAX_GUESTS : Tok
  m_MAX_GUESTS : mg "MAX_GUESTS" = some (.int 20 t_MAX_GUESTS)
  t_MAX_PAIRS : Tok
  m_MAX_PAIRS : mg "MAX_PAIRS" = some (.int 20 t_MAX_PAIRS)
  t_MAX_SIZE : Tok
  m_MAX_SIZE : mg "MAX_SIZE" = some (.int 1000000 t_MAX_SIZE)
  b_abs : mg "abs" = none
  b_bool : mg "bool" = none
  b_enumerate : mg "enumerate" = none
  b_int : mg "int" = none
  b_isinstance : mg "isinstance" = none
  b_len : mg "len" = none
  b_max : mg "max" = none
  b_min : mg "min" = none
  b_range : mg "range" = none
  b_repr : mg "repr" = none
  b_set : mg "set" = none
  b_sorted : mg "sorted" = none
  b_str : mg "str" = none
  b_sum : mg "sum" = none
  b_tuple : mg "tuple" = none
  b_zip : mg "zip" = none
section
variable {P : Program} {w : World} {K : PySem.W.Frag} {mg : Str → Option Value} {base : Heap} {cl : CLs}
theorem fn_is_number (T : Tab cl K mg) : FnG P w K mg base 1 T.a_is_number 3 den_is_number := by
  refine fnG (N := ["value", "low", "high"]) (ps := ["value", "low", "high"]) T.f_is_number ⟨rfl, rfl, rfl, by decide +kernel, rfl, by decide +kernel, by decide +kernel⟩ (fun _ _ _ _ _ _ us hl => match us, hl with | [_, _, _], _ => rfl) fun cdv A outer s H E ok => ?_
  exact (dss_cons (ds_ret (de_and (de_callV k_isi (da_cons (de_var 0) (da_cons (de_ty rfl T.b_int) da_nil)) fun pa => pe_callB call_isi rfl T.b_isinstance (by decide +kernel) pa) (de_and (de_not (de_callV k_isi (da_cons (de_var 0) (da_cons (de_ty rfl T.b_bool) da_nil)) fun pa => pe_callB call_isi rfl T.b_isinstance (by decide +kernel) pa)) (de_one (de_chain op_le op_le mono_I0 k_le k_le mono_I0 (de_var 1) (de_var 0) (de_var 2) (pe_chain op_le op_le))))))
  dss_nil)
theorem fn_is_size (T : Tab cl K mg) : FnG P w K mg base 2 T.a_is_size 1 den_is_size := by
  refine fnG (N := ["value"]) (ps := ["value"]) T.f_is_size ⟨rfl, rfl, rfl, by decide +kernel, rfl, by decide +kernel, by decide +kernel⟩ (fun _ _ _ _ _ _ us hl => match us, hl with | [_], _ => rfl) fun cdv A outer s H E ok => ?_
  exact (dss_cons (ds_ret (de_call (fn_is_number T) ok (by decide) rfl T.m_is_number T.f_is_number.kp (da_cons (de_var 0) (da_cons de_int (da_cons (de_glob (t := .int 1000000) rfl T.m_MAX_SIZE ⟨_, rfl⟩ fun _ _ _ => .int _) da_nil))) (len_cons (len_cons (len_cons len_nil)))))
  dss_nil)
theorem fn_first_wrong (T : Tab cl K mg) : FnG P w K mg base 3 T.a_first_wrong 1 den_first_wrong := by
  refine fnG (N := ["values", "place", "value"]) (ps := ["values"]) T.f_first_wrong ⟨rfl, rfl, rfl, by decide +kernel, rfl, by decide +kernel, by decide +kernel⟩ (fun _ _ _ _ _ _ us hl => match us, hl with | [_], _ => rfl) fun cdv A outer s H E ok => ?_
  exact (dss_cons (ds_for ok (di_enum rfl T.b_enumerate (da_cons (de_var 0) da_nil)) (dg_tup ok.calm (dgs_cons (dg_name 1 ok.nd) (dgs_cons (dg_name 2 ok.nd) dgs_nil)) (gsC_len (gsC_len gsN_len))) (dss_cons (ds_if (dt_not (dt_val (de_call (fn_is_size T) ok (by decide) rfl T.m_is_size T.f_is_size.kp (da_cons (de_var 2) da_nil) (len_cons len_nil)))) (dss_cons (ds_ret (de_var 1))
  dss_nil) dss_nil)
  dss_nil))
  (dss_cons (ds_ret de_non)
  dss_nil))
theorem fn_hall_error (T : Tab cl K mg) : FnG P w K mg base 4 T.a_hall_error 1 den_hall_error := by
  refine fnG (N := ["value", "feet", "pairs", "guest", "pair"]) (ps := ["value"]) T.f_hall_error ⟨rfl, rfl, rfl, by decide +kernel, rfl, by decide +kernel, by decide +kernel⟩ (fun _ _ _ _ _ _ us hl => match us, hl with | [_], _ => rfl) fun cdv A outer s H E ok => ?_
  exact (dss_cons (ds_if (dt_w (dw_or (dt_not (dt_val (de_callV k_isi (da_cons (de_var 0) (da_cons (de_ty rfl T.b_tuple) da_nil)) fun pa => pe_callB call_isi rfl T.b_isinstance (by decide +kernel) pa))) (dw_or1 (dt_cmp (op_ne2 ok.room.units) k_ne (de_callV k_len (da_cons (de_var 0) da_nil) fun pa => pe_callB call_len rfl T.b_len (by decide +kernel) pa) de_int (nomark _))))) (dss_cons (ds_ret (de_tup (da_cons de_non (da_cons (de_str) da_nil))))
  dss_nil) dss_nil)
  (dss_cons (ds_asg (de_var 0) (dg_tup ok.calm (dgs_cons (dg_name 1 ok.nd) (dgs_cons (dg_name 2 ok.nd) dgs_nil)) (gsC_len (gsC_len gsN_len))))
  (dss_cons (ds_if (dt_w (dw_or (dt_not (dt_val (de_callV k_isi (da_cons (de_var 1) (da_cons (de_ty rfl T.b_tuple) da_nil)) fun pa => pe_callB call_isi rfl T.b_isinstance (by decide +kernel) pa))) (dw_or1 (dt_not (dt_chain op_le op_le mono_I0 k_le k_le mono_I0 de_int (de_callV k_len (da_cons (de_var 1) da_nil) fun pa => pe_callB call_len rfl T.b_len (by decide +kernel) pa) (de_glob (t := .int 20) rfl T.m_MAX_GUESTS ⟨_, rfl⟩ fun _ _ _ => .int _) (pt_chain op_le op_le)))))) (dss_cons (ds_ret (de_tup (da_cons de_non (da_cons (de_str) da_nil))))
  dss_nil) dss_nil)
  (dss_cons (ds_ifw 3 op_notN k_notN ok.nd (de_call (fn_first_wrong T) ok (by decide) rfl T.m_first_wrong T.f_first_wrong.kp (da_cons (de_var 1) da_nil) (len_cons len_nil)) de_non (dss_cons (ds_ret (de_tup (da_cons (de_var 3) (da_cons (de_str) da_nil))))
  dss_nil) dss_nil (nomark _))
  (dss_cons (ds_if (dt_w (dw_or (dt_not (dt_val (de_callV k_isi (da_cons (de_var 2) (da_cons (de_ty rfl T.b_tuple) da_nil)) fun pa => pe_callB call_isi rfl T.b_isinstance (by decide +kernel) pa))) (dw_or1 (dt_cmp op_gt k_gt (de_callV k_len (da_cons (de_var 2) da_nil) fun pa => pe_callB call_len rfl T.b_len (by decide +kernel) pa) (de_glob (t := .int 20) rfl T.m_MAX_PAIRS ⟨_, rfl⟩ fun _ _ _ => .int _) (nomark _))))) (dss_cons (ds_ret (de_tup (da_cons de_non (da_cons (de_str) da_nil))))
  dss_nil) dss_nil)
  (dss_cons (ds_asg (de_call (fn_first_wrong T) ok (by decide) rfl T.m_first_wrong T.f_first_wrong.kp (da_cons (de_var 2) da_nil) (len_cons len_nil)) (dg_name 4 ok.nd))
  (dss_cons (ds_ret (de_if (dt_cmp op_isN k_isN (de_var 4) de_non (nomark _)) de_non (de_tup (da_cons (de_var 4) (da_cons (de_str) da_nil)))))
  dss_nil)))))))
theorem fn_counts_at (T : Tab cl K mg) : FnG P w K mg base 1 T.a_counts_at 2 den_counts_at := by
  refine fnG (N := ["hall", "size", "feet", "pairs", "foot", "pair"]) (ps := ["hall", "size"]) T.f_counts_at ⟨rfl, rfl, rfl, by decide +kernel, rfl, by decide +kernel, by decide +kernel⟩ (fun _ _ _ _ _ _ us hl => match us, hl with | [_, _], _ => rfl) fun cdv A outer s H E ok => ?_
  exact (dss_cons (ds_asg (de_var 0) (dg_tup ok.calm (dgs_cons (dg_name 2 ok.nd) (dgs_cons (dg_name 3 ok.nd) dgs_nil)) (gsC_len (gsC_len gsN_len))))
  (dss_cons (ds_ret (de_tup (da_cons (de_callV k_len (da_cons (de_fz (dn_lc (own := [("foot", 4)]) ok (di_seq (de_var 2)) (by kernel_rfl) (fun s H C cl fp ok => (dg_name 4 ok.nd)) (fun s H C cl fp ok => (dts_one (dt_cmp op_lt k_lt (de_var 4) (de_var 1) (nomark _)))) (fun s H C cl fp ok => (de_var 4)))) da_nil) fun pa => pe_callB call_len rfl T.b_len (by decide +kernel) pa) (da_cons (de_callV k_len (da_cons (de_fz (dn_lc (own := [("pair", 5)]) ok (di_seq (de_var 3)) (by kernel_rfl) (fun s H C cl fp ok => (dg_name 5 ok.nd)) (fun s H C cl fp ok => (dts_one (dt_cmp op_ge k_ge (de_var 5) (de_var 1) (nomark _)))) (fun s H C cl fp ok => (de_var 5)))) da_nil) fun pa => pe_callB call_len rfl T.b_len (by decide +kernel) pa) da_nil))))
  dss_nil))
theorem fn_sizes_to_try (T : Tab cl K mg) : FnG P w K mg base 1 T.a_sizes_to_try 1 den_sizes_to_try := by
  refine fnG (N := ["hall", "feet", "pairs", "size"]) (ps := ["hall"]) T.f_sizes_to_try ⟨rfl, rfl, rfl, by decide +kernel, rfl, by decide +kernel, by decide +kernel⟩ (fun _ _ _ _ _ _ us hl => match us, hl with | [_], _ => rfl) fun cdv A outer s H E ok => ?_
  exact (dss_cons (ds_asg (de_var 0) (dg_tup ok.calm (dgs_cons (dg_name 1 ok.nd) (dgs_cons (dg_name 2 ok.nd) dgs_nil)) (gsC_len (gsC_len gsN_len))))
  (dss_cons (ds_ret (de_fz (dn_sortSet2 ok (de_fz (dn_lst (da_cons de_int (da_star (de_fz (dn_lc (own := [("size", 3)]) ok (di_seq (de_tup (da_star (de_var 1) (da_star (de_var 2) da_nil fun po pa => StX.pa_star po pa) fun po pa => StX.pa_star po pa))) (by kernel_rfl) (fun s H C cl fp ok => (dg_name 3 ok.nd)) (fun s H C cl fp ok => dts_nil) (fun s H C cl fp ok => (de_op op_add4 k_add (de_var 3) de_int)))) da_nil fun po pa => StX.pa_star po pa)))) fun po c1 c2 => pe_callB c2 rfl T.b_sorted (by decide +kernel) (pa_cons (pe_callTy c1 rfl T.b_set (by decide +kernel) (pa_cons po pa_nil)) pa_nil))))
  dss_nil))
theorem fn_most_served (T : Tab cl K mg) : FnG P w K mg base 2 T.a_most_served 1 den_most_served := by
  refine fnG (N := ["hall", "size"]) (ps := ["hall"]) T.f_most_served ⟨rfl, rfl, rfl, by decide +kernel, rfl, by decide +kernel, by decide +kernel⟩ (fun _ _ _ _ _ _ us hl => match us, hl with | [_], _ => rfl) fun cdv A outer s H E ok => ?_
  exact (dss_cons (ds_ret (de_callV (k_orB (k_orB k_minL k_minP) (k_exT (mx := false))) (da_cons (de_fz (dn_lc (own := [("size", 1)]) ok (di_seq (de_call (fn_sizes_to_try T) ok (by decide) rfl T.m_sizes_to_try T.f_sizes_to_try.kp (da_cons (de_var 0) da_nil) (len_cons len_nil))) (by kernel_rfl) (fun s H C cl fp ok => (dg_name 1 ok.nd)) (fun s H C cl fp ok => dts_nil) (fun s H C cl fp ok => (de_callV (k_orB k_sum k_sumT) (da_cons (de_call (fn_counts_at T) ok (by decide) rfl T.m_counts_at T.f_counts_at.kp (da_cons (de_var 0) (da_cons (de_var 1) da_nil)) (len_cons (len_cons len_nil))) da_nil) fun pa => pe_callB (callOr (cr_sum ok.calm) (cr_sumT ok.calm)) rfl T.b_sum (by decide +kernel) pa)))) da_nil) fun pa => pe_callB (callOr (callOr (cr_min ok.calm) (cr_minP ok)) (cr_exT ok false)) rfl T.b_min (by decide +kernel) pa))
  dss_nil)
theorem fn_fewest_served (T : Tab cl K mg) : FnG P w K mg base 2 T.a_fewest_served 1 den_fewest_served := by
  refine fnG (N := ["hall", "size"]) (ps := ["hall"]) T.f_fewest_served ⟨rfl, rfl, rfl, by decide +kernel, rfl, by decide +kernel, by decide +kernel⟩ (fun _ _ _ _ _ _ us hl => match us, hl with | [_], _ => rfl) fun cdv A outer s H E ok => ?_
  exact (dss_cons (ds_ret (de_callV (k_orB (k_orB k_minL k_minP) (k_exT (mx := false))) (da_cons (de_fz (dn_lc (own := [("size", 1)]) ok (di_seq (de_call (fn_sizes_to_try T) ok (by decide) rfl T.m_sizes_to_try T.f_sizes_to_try.kp (da_cons (de_var 0) da_nil) (len_cons len_nil))) (by kernel_rfl) (fun s H C cl fp ok => (dg_name 1 ok.nd)) (fun s H C cl fp ok => dts_nil) (fun s H C cl fp ok => (de_callV (k_orB k_maxL (k_exT (mx := true))) (da_cons (de_call (fn_counts_at T) ok (by decide) rfl T.m_counts_at T.f_counts_at.kp (da_cons (de_var 0) (da_cons (de_var 1) da_nil)) (len_cons (len_cons len_nil))) da_nil) fun pa => pe_callB (callOr (cr_max ok.calm) (cr_exT ok true)) rfl T.b_max (by decide +kernel) pa)))) da_nil) fun pa => pe_callB (callOr (callOr (cr_min ok.calm) (cr_minP ok)) (cr_exT ok false)) rfl T.b_min (by decide +kernel) pa))
  dss_nil)
theorem fn_is_within (T : Tab cl K mg) : FnG P w K mg base 1 T.a_is_within 3 den_is_within := by
  refine fnG (N := ["value", "low", "high"]) (ps := ["value", "low", "high"]) T.f_is_within ⟨rfl, rfl, rfl, by decide +kernel, rfl, by decide +kernel, by decide +kernel⟩ (fun _ _ _ _ _ _ us hl => match us, hl with | [_, _, _], _ => rfl) fun cdv A outer s H E ok => ?_
  exact (dss_cons (ds_ret (de_and (de_callV k_isi (da_cons (de_var 0) (da_cons (de_ty rfl T.b_int) da_nil)) fun pa => pe_callB call_isi rfl T.b_isinstance (by decide +kernel) pa) (de_and (de_not (de_callV k_isi (da_cons (de_var 0) (da_cons (de_ty rfl T.b_bool) da_nil)) fun pa => pe_callB call_isi rfl T.b_isinstance (by decide +kernel) pa)) (de_one (de_chain op_le op_le mono_I0 k_le k_le mono_I0 (de_var 1) (de_var 0) (de_var 2) (pe_chain op_le op_le))))))
  dss_nil)
theorem fn_with_guest (T : Tab cl K mg) : FnG P w K mg base 2 T.a_with_guest 2 den_with_guest := by
  refine fnG (N := ["feet", "foot"]) (ps := ["feet", "foot"]) T.f_with_guest ⟨rfl, rfl, rfl, by decide +kernel, rfl, by decide +kernel, by decide +kernel⟩ (fun _ _ _ _ _ _ us hl => match us, hl with | [_, _], _ => rfl) fun cdv A outer s H E ok => ?_
  exact (dss_cons (ds_if (dt_not (dt_val (de_call (fn_is_within T) ok (by decide) rfl T.m_is_within T.f_is_within.kp (da_cons (de_var 1) (da_cons de_int (da_cons (de_glob (t := .int 1000000) rfl T.m_MAX_SIZE ⟨_, rfl⟩ fun _ _ _ => .int _) da_nil))) (len_cons (len_cons (len_cons len_nil)))))) (dss_cons ds_never
  dss_nil) dss_nil)
  (dss_cons (ds_if (dt_cmp op_ge k_ge (de_callV k_len (da_cons (de_var 0) da_nil) fun pa => pe_callB call_len rfl T.b_len (by decide +kernel) pa) (de_glob (t := .int 20) rfl T.m_MAX_GUESTS ⟨_, rfl⟩ fun _ _ _ => .int _) (nomark _)) (dss_cons ds_never
  dss_nil) dss_nil)
  (dss_cons (ds_ret (de_tup (da_star (de_var 0) (da_cons (de_var 1) da_nil) fun po pa => StX.pa_star po pa)))
  dss_nil)))
theorem fn_without_guest (T : Tab cl K mg) : FnG P w K mg base 2 T.a_without_guest 2 den_without_guest := by
  refine fnG (N := ["feet", "guest"]) (ps := ["feet", "guest"]) T.f_without_guest ⟨rfl, rfl, rfl, by decide +kernel, rfl, by decide +kernel, by decide +kernel⟩ (fun _ _ _ _ _ _ us hl => match us, hl with | [_, _], _ => rfl) fun cdv A outer s H E ok => ?_
  exact (dss_cons (ds_if (dt_not (dt_val (de_call (fn_is_within T) ok (by decide) rfl T.m_is_within T.f_is_within.kp (da_cons (de_var 1) (da_cons de_int (da_cons (de_op op_sub k_sub (de_callV k_len (da_cons (de_var 0) da_nil) fun pa => pe_callB call_len rfl T.b_len (by decide +kernel) pa) de_int) da_nil))) (len_cons (len_cons (len_cons len_nil)))))) (dss_cons ds_never
  dss_nil) dss_nil)
  (dss_cons (ds_if (dt_cmp (op_eq2 ok.room.units) k_eq (de_callV k_len (da_cons (de_var 0) da_nil) fun pa => pe_callB call_len rfl T.b_len (by decide +kernel) pa) de_int (nomark _)) (dss_cons ds_never
  dss_nil) dss_nil)
  (dss_cons (ds_ret (de_tup (da_star (de_sl (de_var 0) do_none (do_some (de_var 1))) (da_star (de_sl (de_var 0) (do_some (de_op op_add4 k_add (de_var 1) de_int)) do_none) da_nil fun po pa => StX.pa_star po pa) fun po pa => StX.pa_star po pa)))
  dss_nil)))
theorem fn_with_pair (T : Tab cl K mg) : FnG P w K mg base 2 T.a_with_pair 2 den_with_pair := by
  refine fnG (N := ["pairs", "size"]) (ps := ["pairs", "size"]) T.f_with_pair ⟨rfl, rfl, rfl, by decide +kernel, rfl, by decide +kernel, by decide +kernel⟩ (fun _ _ _ _ _ _ us hl => match us, hl with | [_, _], _ => rfl) fun cdv A outer s H E ok => ?_
  exact (dss_cons (ds_if (dt_not (dt_val (de_call (fn_is_within T) ok (by decide) rfl T.m_is_within T.f_is_within.kp (da_cons (de_var 1) (da_cons de_int (da_cons (de_glob (t := .int 1000000) rfl T.m_MAX_SIZE ⟨_, rfl⟩ fun _ _ _ => .int _) da_nil))) (len_cons (len_cons (len_cons len_nil)))))) (dss_cons ds_never
  dss_nil) dss_nil)
  (dss_cons (ds_if (dt_cmp op_ge k_ge (de_callV k_len (da_cons (de_var 0) da_nil) fun pa => pe_callB call_len rfl T.b_len (by decide +kernel) pa) (de_glob (t := .int 20) rfl T.m_MAX_PAIRS ⟨_, rfl⟩ fun _ _ _ => .int _) (nomark _)) (dss_cons ds_never
  dss_nil) dss_nil)
  (dss_cons (ds_ret (de_tup (da_star (de_var 0) (da_cons (de_var 1) da_nil) fun po pa => StX.pa_star po pa)))
  dss_nil)))
theorem fn_without_pair (T : Tab cl K mg) : FnG P w K mg base 2 T.a_without_pair 2 den_without_pair := by
  refine fnG (N := ["pairs", "pair"]) (ps := ["pairs", "pair"]) T.f_without_pair ⟨rfl, rfl, rfl, by decide +kernel, rfl, by decide +kernel, by decide +kernel⟩ (fun _ _ _ _ _ _ us hl => match us, hl with | [_, _], _ => rfl) fun cdv A outer s H E ok => ?_
  exact (dss_cons (ds_if (dt_not (dt_val (de_call (fn_is_within T) ok (by decide) rfl T.m_is_within T.f_is_within.kp (da_cons (de_var 1) (da_cons de_int (da_cons (de_op op_sub k_sub (de_callV k_len (da_cons (de_var 0) da_nil) fun pa => pe_callB call_len rfl T.b_len (by decide +kernel) pa) de_int) da_nil))) (len_cons (len_cons (len_cons len_nil)))))) (dss_cons ds_never
  dss_nil) dss_nil)
  (dss_cons (ds_ret (de_tup (da_star (de_sl (de_var 0) do_none (do_some (de_var 1))) (da_star (de_sl (de_var 0) (do_some (de_op op_add4 k_add (de_var 1) de_int)) do_none) da_nil fun po pa => StX.pa_star po pa) fun po pa => StX.pa_star po pa)))
  dss_nil))
theorem fn_Party___init__ (T : Tab cl K mg) : FnG P w K mg base 5 T.a_Party___init__ 2 (den_Party___init__ cl) := by
  refine fnG (N := ["self", "hall", "error"]) (ps := ["self", "hall"]) T.f_Party___init__ ⟨rfl, rfl, rfl, by decide +kernel, rfl, by decide +kernel, by decide +kernel⟩ (fun _ _ _ _ _ _ us hl => match us, hl with | [_, _], _ => rfl) fun cdv A outer s H E ok => ?_
  exact (dss_cons (ds_asg (de_call (fn_hall_error T) ok (by decide) rfl T.m_hall_error T.f_hall_error.kp (da_cons (de_var 1) da_nil) (len_cons len_nil)) (dg_name 2 ok.nd))
  (dss_cons (ds_if (dt_cmp op_notN k_notN (de_var 2) de_non (nomark _)) (dss_cons ds_never
  dss_nil) dss_nil)
  (dss_cons (ds_setF (de_var 0) (de_nw (dn_lst (da_cons (de_var 1) da_nil))) T.c_Party T.n_Party_states)
  (dss_cons (ds_setF (de_var 0) (de_nw (dn_lst da_nil)) T.c_Party T.n_Party_standing)
  (dss_cons (ds_setF (de_var 0) de_bl T.c_Party T.n_Party_watching)
  (dss_cons (ds_setF (de_var 0) (de_nw (dn_lst (da_cons (de_tup (da_cons (de_call (fn_fewest_served T) ok (by decide) rfl T.m_fewest_served T.f_fewest_served.kp (da_cons (de_var 1) da_nil) (len_cons len_nil)) (da_cons (de_call (fn_most_served T) ok (by decide) rfl T.m_most_served T.f_most_served.kp (da_cons (de_var 1) da_nil) (len_cons len_nil)) da_nil))) da_nil))) T.c_Party T.n_Party_ends)
  dss_nil))))))
theorem fn_Party_hall (T : Tab cl K mg) : FnG P w K mg base 1 T.a_Party_hall 1 (den_Party_hall cl) := by
  refine fnG (N := ["self"]) (ps := ["self"]) T.f_Party_hall ⟨rfl, rfl, rfl, by decide +kernel, rfl, by decide +kernel, by decide +kernel⟩ (fun _ _ _ _ _ _ us hl => match us, hl with | [_], _ => rfl) fun cdv A outer s H E ok => ?_
  exact (dss_cons (ds_ret (de_ix ix_seq k_ix (de_fld (de_var 0) T.c_Party T.n_Party_states) (de_un un_neg k_neg de_int)))
  dss_nil)
theorem fn_Party_most (T : Tab cl K mg) : FnG P w K mg base 1 T.a_Party_most 1 (den_Party_most cl) := by
  refine fnG (N := ["self"]) (ps := ["self"]) T.f_Party_most ⟨rfl, rfl, rfl, by decide +kernel, rfl, by decide +kernel, by decide +kernel⟩ (fun _ _ _ _ _ _ us hl => match us, hl with | [_], _ => rfl) fun cdv A outer s H E ok => ?_
  exact (dss_cons (ds_ret (de_ix ix_seq k_ix (de_ix ix_seq k_ix (de_fld (de_var 0) T.c_Party T.n_Party_ends) (de_un un_neg k_neg de_int)) de_int))
  dss_nil)
theorem fn_Party_fewest (T : Tab cl K mg) : FnG P w K mg base 1 T.a_Party_fewest 1 (den_Party_fewest cl) := by
  refine fnG (N := ["self"]) (ps := ["self"]) T.f_Party_fewest ⟨rfl, rfl, rfl, by decide +kernel, rfl, by decide +kernel, by decide +kernel⟩ (fun _ _ _ _ _ _ us hl => match us, hl with | [_], _ => rfl) fun cdv A outer s H E ok => ?_
  exact (dss_cons (ds_ret (de_ix ix_seq k_ix (de_ix ix_seq k_ix (de_fld (de_var 0) T.c_Party T.n_Party_ends) (de_un un_neg k_neg de_int)) de_int))
  dss_nil)
theorem fn_Party_accept (T : Tab cl K mg) : FnG P w K mg base 1 T.a_Party_accept 2 den_Party_accept := by
  refine fnG (N := ["self", "number"]) (ps := ["self", "number"]) T.f_Party_accept ⟨rfl, rfl, rfl, by decide +kernel, rfl, by decide +kernel, by decide +kernel⟩ (fun _ _ _ _ _ _ us hl => match us, hl with | [_, _], _ => rfl) fun cdv A outer s H E ok => ?_
  exact (dss_cons ds_pass
  dss_nil)
theorem fn_Party___len__ (T : Tab cl K mg) : FnG P w K mg base 1 T.a_Party___len__ 1 (den_Party___len__ cl) := by
  refine fnG (N := ["self"]) (ps := ["self"]) T.f_Party___len__ ⟨rfl, rfl, rfl, by decide +kernel, rfl, by decide +kernel, by decide +kernel⟩ (fun _ _ _ _ _ _ us hl => match us, hl with | [_], _ => rfl) fun cdv A outer s H E ok => ?_
  exact (dss_cons (ds_ret (de_callV k_len (da_cons (de_fld (de_var 0) T.c_Party T.n_Party_standing) da_nil) fun pa => pe_callB call_len rfl T.b_len (by decide +kernel) pa))
  dss_nil)
theorem fn_Party___str__ (T : Tab cl K mg) : FnG P w K mg base 1 T.a_Party___str__ 1 (den_Party___str__ cl) := by
  refine fnG (N := ["self", "feet", "pairs", "fewest", "most"]) (ps := ["self"]) T.f_Party___str__ ⟨rfl, rfl, rfl, by decide +kernel, rfl, by decide +kernel, by decide +kernel⟩ (fun _ _ _ _ _ _ us hl => match us, hl with | [_], _ => rfl) fun cdv A outer s H E ok => ?_
  exact (dss_cons (ds_asg (de_ix ix_seq k_ix (de_fld (de_var 0) T.c_Party T.n_Party_states) (de_un un_neg k_neg de_int)) (dg_tup ok.calm (dgs_cons (dg_name 1 ok.nd) (dgs_cons (dg_name 2 ok.nd) dgs_nil)) (gsC_len (gsC_len gsN_len))))
  (dss_cons (ds_asg (de_ix ix_seq k_ix (de_fld (de_var 0) T.c_Party T.n_Party_ends) (de_un un_neg k_neg de_int)) (dg_tup ok.calm (dgs_cons (dg_name 3 ok.nd) (dgs_cons (dg_name 4 ok.nd) dgs_nil)) (gsC_len (gsC_len gsN_len))))
  (dss_cons (ds_ret (de_joined (dj_cons (de_fmt (de_callV k_len (da_cons (de_var 1) da_nil) fun pa => pe_callB call_len rfl T.b_len (by decide +kernel) pa)) (dj_cons (de_str) (dj_cons (de_fmt (de_callV k_len (da_cons (de_var 2) da_nil) fun pa => pe_callB call_len rfl T.b_len (by decide +kernel) pa)) (dj_cons (de_str) (dj_cons (de_fmt (de_var 3)) (dj_cons (de_str) (dj_cons (de_fmt (de_var 4)) (dj_cons (de_str) (dj_cons (de_fmt (de_callV k_len (da_cons (de_fld (de_var 0) T.c_Party T.n_Party_standing) da_nil) fun pa => pe_callB call_len rfl T.b_len (by decide +kernel) pa)) (dj_cons (de_str) dj_nil))))))))))))
  dss_nil)))
theorem fn_Party_require_idle (T : Tab cl K mg) : FnG P w K mg base 1 T.a_Party_require_idle 1 (den_Party_require_idle cl) := by
  refine fnG (N := ["self"]) (ps := ["self"]) T.f_Party_require_idle ⟨rfl, rfl, rfl, by decide +kernel, rfl, by decide +kernel, by decide +kernel⟩ (fun _ _ _ _ _ _ us hl => match us, hl with | [_], _ => rfl) fun cdv A outer s H E ok => ?_
  exact (dss_cons (ds_if (dt_val (de_fld (de_var 0) T.c_Party T.n_Party_watching)) (dss_cons ds_never
  dss_nil) dss_nil)
  dss_nil)
theorem fn_Party_state_after (T : Tab cl K mg) : FnG P w K mg base 3 T.a_Party_state_after 2 (den_Party_state_after cl) := by
  refine fnG (N := ["self", "edit", "feet", "pairs", "word", "value"]) (ps := ["self", "edit"]) T.f_Party_state_after ⟨rfl, rfl, rfl, by decide +kernel, rfl, by decide +kernel, by decide +kernel⟩ (fun _ _ _ _ _ _ us hl => match us, hl with | [_, _], _ => rfl) fun cdv A outer s H E ok => ?_
  exact (dss_cons (ds_asg (de_ix ix_seq k_ix (de_fld (de_var 0) T.c_Party T.n_Party_states) (de_un un_neg k_neg de_int)) (dg_tup ok.calm (dgs_cons (dg_name 2 ok.nd) (dgs_cons (dg_name 3 ok.nd) dgs_nil)) (gsC_len (gsC_len gsN_len))))
  (dss_cons (ds_asg (de_var 1) (dg_tup ok.calm (dgs_cons (dg_name 4 ok.nd) (dgs_cons (dg_name 5 ok.nd) dgs_nil)) (gsC_len (gsC_len gsN_len))))
  (dss_cons (ds_match (de_var 4) (dms_str (dss_cons (ds_asg (de_call (fn_with_guest T) ok (by decide) rfl T.m_with_guest T.f_with_guest.kp (da_cons (de_var 2) (da_cons (de_var 5) da_nil)) (len_cons (len_cons len_nil))) (dg_name 2 ok.nd))
  dss_nil) (dms_str (dss_cons (ds_asg (de_call (fn_without_guest T) ok (by decide) rfl T.m_without_guest T.f_without_guest.kp (da_cons (de_var 2) (da_cons (de_var 5) da_nil)) (len_cons (len_cons len_nil))) (dg_name 2 ok.nd))
  dss_nil) (dms_str (dss_cons (ds_asg (de_call (fn_with_pair T) ok (by decide) rfl T.m_with_pair T.f_with_pair.kp (da_cons (de_var 3) (da_cons (de_var 5) da_nil)) (len_cons (len_cons len_nil))) (dg_name 3 ok.nd))
  dss_nil) (dms_wild (dss_cons (ds_asg (de_call (fn_without_pair T) ok (by decide) rfl T.m_without_pair T.f_without_pair.kp (da_cons (de_var 3) (da_cons (de_var 5) da_nil)) (len_cons (len_cons len_nil))) (dg_name 3 ok.nd))
  dss_nil) dms_nil)))))
  (dss_cons (ds_ret (de_tup (da_cons (de_var 2) (da_cons (de_var 3) da_nil))))
  dss_nil))))
theorem fn_Party_perform (T : Tab cl K mg) : FnG P w K mg base 4 T.a_Party_perform 2 (den_Party_perform cl) := by
  refine fnG (N := ["self", "edit", "hall", "fewest"]) (ps := ["self", "edit"]) T.f_Party_perform ⟨rfl, rfl, rfl, by decide +kernel, rfl, by decide +kernel, by decide +kernel⟩ (fun _ _ _ _ _ _ us hl => match us, hl with | [_, _], _ => rfl) fun cdv A outer s H E ok => ?_
  exact (dss_cons (ds_if (dt_cmp op_ge k_ge (de_callV k_len (da_cons (de_fld (de_var 0) T.c_Party T.n_Party_standing) da_nil) fun pa => pe_callB call_len rfl T.b_len (by decide +kernel) pa) (de_glob (t := .int 60) rfl T.m_MAX_EDITS ⟨_, rfl⟩ fun _ _ _ => .int _) (nomark _)) (dss_cons ds_never
  dss_nil) dss_nil)
  (dss_cons (ds_asg (de_meth (fn_Party_state_after T) ok (by decide) T.c_Party T.me_Party_state_after (de_var 0) (da_cons (de_var 1) da_nil) (len_cons len_nil)) (dg_name 2 ok.nd))
  (dss_cons (ds_asg (de_call (fn_fewest_served T) ok (by decide) rfl T.m_fewest_served T.f_fewest_served.kp (da_cons (de_var 2) da_nil) (len_cons len_nil)) (dg_name 3 ok.nd))
  (dss_cons (ds_expr (de_meth (fn_Party_accept T) ok (by decide) T.c_Party T.me_Party_accept (de_var 0) (da_cons (de_var 3) da_nil) (len_cons len_nil)))
  (dss_cons (ds_expr (de_ml km_append (de_fld (de_var 0) T.c_Party T.n_Party_states) (da_cons (de_var 2) da_nil) fun po pa => pe_bm PySem.F.plainAttrs_list PySem.F.slot_list_append PySem.F.type_list_append mt_append po pa))
  (dss_cons (ds_expr (de_ml km_append (de_fld (de_var 0) T.c_Party T.n_Party_ends) (da_cons (de_tup (da_cons (de_var 3) (da_cons (de_call (fn_most_served T) ok (by decide) rfl T.m_most_served T.f_most_served.kp (da_cons (de_var 2) da_nil) (len_cons len_nil)) da_nil))) da_nil) fun po pa => pe_bm PySem.F.plainAttrs_list PySem.F.slot_list_append PySem.F.type_list_append mt_append po pa))
  (dss_cons (ds_expr (de_ml km_append (de_fld (de_var 0) T.c_Party T.n_Party_standing) (da_cons (de_var 1) da_nil) fun po pa => pe_bm PySem.F.plainAttrs_list PySem.F.slot_list_append PySem.F.type_list_append mt_append po pa))
  (dss_cons (ds_ret (de_callV k_len (da_cons (de_fld (de_var 0) T.c_Party T.n_Party_standing) da_nil) fun pa => pe_callB call_len rfl T.b_len (by decide +kernel) pa))
  dss_nil))))))))
theorem fn_Party_come (T : Tab cl K mg) : FnG P w K mg base 5 T.a_Party_come 2 (den_Party_come cl) := by
  refine fnG (N := ["self", "foot"]) (ps := ["self", "foot"]) T.f_Party_come ⟨rfl, rfl, rfl, by decide +kernel, rfl, by decide +kernel, by decide +kernel⟩ (fun _ _ _ _ _ _ us hl => match us, hl with | [_, _], _ => rfl) fun cdv A outer s H E ok => ?_
  exact (dss_cons (ds_expr (de_meth0 (fn_Party_require_idle T) ok (by decide) T.c_Party T.me_Party_require_idle (de_var 0)))
  (dss_cons (ds_ret (de_meth (fn_Party_perform T) ok (by decide) T.c_Party T.me_Party_perform (de_var 0) (da_cons (de_tup (da_cons (de_str) (da_cons (de_var 1) da_nil))) da_nil) (len_cons len_nil)))
  dss_nil))
theorem fn_Party_leave (T : Tab cl K mg) : FnG P w K mg base 5 T.a_Party_leave 2 (den_Party_leave cl) := by
  refine fnG (N := ["self", "guest"]) (ps := ["self", "guest"]) T.f_Party_leave ⟨rfl, rfl, rfl, by decide +kernel, rfl, by decide +kernel, by decide +kernel⟩ (fun _ _ _ _ _ _ us hl => match us, hl with | [_, _], _ => rfl) fun cdv A outer s H E ok => ?_
  exact (dss_cons (ds_expr (de_meth0 (fn_Party_require_idle T) ok (by decide) T.c_Party T.me_Party_require_idle (de_var 0)))
  (dss_cons (ds_ret (de_meth (fn_Party_perform T) ok (by decide) T.c_Party T.me_Party_perform (de_var 0) (da_cons (de_tup (da_cons (de_str) (da_cons (de_var 1) da_nil))) da_nil) (len_cons len_nil)))
  dss_nil))
theorem fn_Party_put (T : Tab cl K mg) : FnG P w K mg base 5 T.a_Party_put 2 (den_Party_put cl) := by
  refine fnG (N := ["self", "size"]) (ps := ["self", "size"]) T.f_Party_put ⟨rfl, rfl, rfl, by decide +kernel, rfl, by decide +kernel, by decide +kernel⟩ (fun _ _ _ _ _ _ us hl => match us, hl with | [_, _], _ => rfl) fun cdv A outer s H E ok => ?_
  exact (dss_cons (ds_expr (de_meth0 (fn_Party_require_idle T) ok (by decide) T.c_Party T.me_Party_require_idle (de_var 0)))
  (dss_cons (ds_ret (de_meth (fn_Party_perform T) ok (by decide) T.c_Party T.me_Party_perform (de_var 0) (da_cons (de_tup (da_cons (de_str) (da_cons (de_var 1) da_nil))) da_nil) (len_cons len_nil)))
  dss_nil))
theorem fn_Party_take (T : Tab cl K mg) : FnG P w K mg base 5 T.a_Party_take 2 (den_Party_take cl) := by
  refine fnG (N := ["self", "pair"]) (ps := ["self", "pair"]) T.f_Party_take ⟨rfl, rfl, rfl, by decide +kernel, rfl, by decide +kernel, by decide +kernel⟩ (fun _ _ _ _ _ _ us hl => match us, hl with | [_, _], _ => rfl) fun cdv A outer s H E ok => ?_
  exact (dss_cons (ds_expr (de_meth0 (fn_Party_require_idle T) ok (by decide) T.c_Party T.me_Party_require_idle (de_var 0)))
  (dss_cons (ds_ret (de_meth (fn_Party_perform T) ok (by decide) T.c_Party T.me_Party_perform (de_var 0) (da_cons (de_tup (da_cons (de_str) (da_cons (de_var 1) da_nil))) da_nil) (len_cons len_nil)))
  dss_nil))
theorem fn_Party_hall_at (T : Tab cl K mg) : FnG P w K mg base 2 T.a_Party_hall_at 2 (den_Party_hall_at cl) := by
  refine fnG (N := ["self", "version"]) (ps := ["self", "version"]) T.f_Party_hall_at ⟨rfl, rfl, rfl, by decide +kernel, rfl, by decide +kernel, by decide +kernel⟩ (fun _ _ _ _ _ _ us hl => match us, hl with | [_, _], _ => rfl) fun cdv A outer s H E ok => ?_
  exact (dss_cons (ds_if (dt_cmp op_isN k_isN (de_var 1) de_non (nomark _)) (dss_cons (ds_ret (de_ix ix_seq k_ix (de_fld (de_var 0) T.c_Party T.n_Party_states) (de_un un_neg k_neg de_int)))
  dss_nil) dss_nil)
  (dss_cons (ds_if (dt_not (dt_val (de_call (fn_is_within T) ok (by decide) rfl T.m_is_within T.f_is_within.kp (da_cons (de_var 1) (da_cons de_int (da_cons (de_callV k_len (da_cons (de_fld (de_var 0) T.c_Party T.n_Party_standing) da_nil) fun pa => pe_callB call_len rfl T.b_len (by decide +kernel) pa) da_nil))) (len_cons (len_cons (len_cons len_nil)))))) (dss_cons ds_never
  dss_nil) dss_nil)
  (dss_cons (ds_ret (de_ix ix_seq k_ix (de_fld (de_var 0) T.c_Party T.n_Party_states) (de_var 1)))
  dss_nil)))
theorem fn_Party_state (T : Tab cl K mg) : FnG P w K mg base 3 T.a_Party_state 1 (den_Party_state cl) := by
  obtain ⟨us0, rel, hb⟩ := T.fd_Party_state.binds0 (ps := ["self", "version"]) 1 (by decide) rfl (fun _ _ _ _ _ _ us ks h1 h2 => match us, ks, h1, h2 with | [_], [_], _, _ => ⟨_, _, _, _, _, _, rfl, rfl, rfl⟩)
  refine fnGB (N := ["self", "version"]) (ps := ["self", "version"]) (n := 1) (dds := [.non]) T.f_Party_state ⟨rfl, rfl, rfl, by decide +kernel, rfl, by decide +kernel, by decide +kernel⟩ hb rel (fun F m => repNons F m) rfl fun cdv A outer s H E ok => ?_
  exact (dss_cons (ds_ret (de_meth (fn_Party_hall_at T) ok (by decide) T.c_Party T.me_Party_hall_at (de_var 0) (da_cons (de_var 1) da_nil) (len_cons len_nil)))
  dss_nil)
theorem fn_Party_edits (T : Tab cl K mg) : FnG P w K mg base 1 T.a_Party_edits 1 (den_Party_edits cl) := by
  refine fnG (N := ["self"]) (ps := ["self"]) T.f_Party_edits ⟨rfl, rfl, rfl, by decide +kernel, rfl, by decide +kernel, by decide +kernel⟩ (fun _ _ _ _ _ _ us hl => match us, hl with | [_], _ => rfl) fun cdv A outer s H E ok => ?_
  exact (dss_cons (ds_ret (de_callV k_tuple (da_cons (de_fld (de_var 0) T.c_Party T.n_Party_standing) da_nil) fun pa => pe_callTy call_tuple_of rfl T.b_tuple (by decide +kernel) pa))
  dss_nil)
theorem fn__law_deck (T : Tab cl K mg) : FnG P w K mg base 1 T.a__law_deck 1 den__law_deck := by
  refine fnG (N := ["script", "cell"]) (ps := ["script"]) T.f__law_deck ⟨rfl, rfl, rfl, by decide +kernel, rfl, by decide +kernel, by decide +kernel⟩ (fun _ _ _ _ _ _ us hl => match us, hl with | [_], _ => rfl) fun cdv A outer s H E ok => ?_
  exact (dss_cons (ds_ret (de_nw (dn_lst (da_cons (de_nw (dn_lc (own := [("cell", 1)]) ok (di_seq (de_sl (de_var 0) do_none (do_some de_int))) (by kernel_rfl) (fun s H C cl fp ok => (dg_name 1 ok.nd)) (fun s H C cl fp ok => dts_nil) (fun s H C cl fp ok => (de_callV k_abs (da_cons (de_var 1) da_nil) fun pa => pe_callB call_abs rfl T.b_abs (by decide +kernel) pa)))) (da_cons de_int da_nil)))))
  dss_nil)
theorem fn__law_draw (T : Tab cl K mg) : FnG P w K mg base 1 T.a__law_draw 2 den__law_draw := by
  refine fnG (N := ["deck", "many", "cell", "place"]) (ps := ["deck", "many"]) T.f__law_draw ⟨rfl, rfl, rfl, by decide +kernel, rfl, by decide +kernel, by decide +kernel⟩ (fun _ _ _ _ _ _ us hl => match us, hl with | [_, _], _ => rfl) fun cdv A outer s H E ok => ?_
  exact (dss_cons (ds_sub (de_op op_add4 k_add (de_ix ix_seq k_ix (de_var 0) de_int) de_int) (de_var 0) de_int)
  (dss_cons (ds_asg de_int (dg_name 2 ok.nd))
  (dss_cons (ds_asg (de_un un_neg k_neg de_int) (dg_name 3 ok.nd))
  (dss_cons (ds_if (dt_cmp op_gt k_gt (de_callV k_len (da_cons (de_ix ix_seq k_ix (de_var 0) de_int) da_nil) fun pa => pe_callB call_len rfl T.b_len (by decide +kernel) pa) de_int (nomark _)) (dss_cons (ds_asg (de_op op_mod k_mod (de_ix ix_seq k_ix (de_var 0) de_int) (de_callV k_len (da_cons (de_ix ix_seq k_ix (de_var 0) de_int) da_nil) fun pa => pe_callB call_len rfl T.b_len (by decide +kernel) pa)) (dg_name 3 ok.nd))
  (dss_cons (ds_asg (de_ix ix_seq k_ix (de_ix ix_seq k_ix (de_var 0) de_int) (de_var 3)) (dg_name 2 ok.nd))
  dss_nil)) dss_nil)
  (dss_cons (ds_if (dt_cmp op_ge k_ge (de_var 2) (de_op op_pow k_pow de_int de_int) (nomark _)) (dss_cons (ds_sub (de_op op_fdiv k_div (de_var 2) (de_var 1)) (de_ix ix_seq k_ix (de_var 0) de_int) (de_var 3))
  (dss_cons (ds_ret (de_op op_mod k_mod (de_var 2) (de_var 1)))
  dss_nil)) dss_nil)
  (dss_cons (ds_ret (de_op op_mod k_mod (de_op op_mod k_mod (de_op op_pow k_pow (de_op op_add4 k_add (de_op op_add4 k_add (de_op op_mod k_mod (de_var 2) de_int) (de_op op_mul3 k_mul de_int (de_ix ix_seq k_ix (de_var 0) de_int))) de_int) de_int) de_int) (de_var 1)))
  dss_nil))))))
theorem fn__law_sizes (T : Tab cl K mg) : FnG P w K mg base 2 T.a__law_sizes 3 den__law_sizes := by
  refine fnG (N := ["deck", "many", "way", "k"]) (ps := ["deck", "many", "way"]) T.f__law_sizes ⟨rfl, rfl, rfl, by decide +kernel, rfl, by decide +kernel, by decide +kernel⟩ (fun _ _ _ _ _ _ us hl => match us, hl with | [_, _, _], _ => rfl) fun cdv A outer s H E ok => ?_
  exact (dss_cons (ds_ret (de_callV k_tuple (da_cons (de_fz (dn_lc (own := [("k", 3)]) ok (di_range1 rfl T.b_range (da_cons (de_var 1) da_nil) (hn := (len_cons len_nil))) (by kernel_rfl) (fun s H C cl fp ok => (dg_name 3 ok.nd)) (fun s H C cl fp ok => dts_nil) (fun s H C cl fp ok => (de_op op_add4 k_add de_int (de_call (fn__law_draw T) ok (by decide) rfl T.m__law_draw T.f__law_draw.kp (da_cons (de_var 0) (da_cons (de_ix ix_seq k_ix (de_fz (dn_lst (da_cons de_int (da_cons de_int (da_cons (de_op op_pow k_pow de_int de_int) da_nil))))) (de_var 2)) da_nil)) (len_cons (len_cons len_nil))))))) da_nil) fun pa => pe_callTy call_tuple_of rfl T.b_tuple (by decide +kernel) pa))
  dss_nil)
theorem fn__law_hall (T : Tab cl K mg) : FnG P w K mg base 3 T.a__law_hall 2 den__law_hall := by
  refine fnG (N := ["deck", "most", "way"]) (ps := ["deck", "most"]) T.f__law_hall ⟨rfl, rfl, rfl, by decide +kernel, rfl, by decide +kernel, by decide +kernel⟩ (fun _ _ _ _ _ _ us hl => match us, hl with | [_, _], _ => rfl) fun cdv A outer s H E ok => ?_
  exact (dss_cons (ds_asg (de_call (fn__law_draw T) ok (by decide) rfl T.m__law_draw T.f__law_draw.kp (da_cons (de_var 0) (da_cons de_int da_nil)) (len_cons (len_cons len_nil))) (dg_name 2 ok.nd))
  (dss_cons (ds_ret (de_tup (da_cons (de_call (fn__law_sizes T) ok (by decide) rfl T.m__law_sizes T.f__law_sizes.kp (da_cons (de_var 0) (da_cons (de_op op_add4 k_add de_int (de_call (fn__law_draw T) ok (by decide) rfl T.m__law_draw T.f__law_draw.kp (da_cons (de_var 0) (da_cons (de_var 1) da_nil)) (len_cons (len_cons len_nil)))) (da_cons (de_var 2) da_nil))) (len_cons (len_cons (len_cons len_nil)))) (da_cons (de_call (fn__law_sizes T) ok (by decide) rfl T.m__law_sizes T.f__law_sizes.kp (da_cons (de_var 0) (da_cons (de_call (fn__law_draw T) ok (by decide) rfl T.m__law_draw T.f__law_draw.kp (da_cons (de_var 0) (da_cons (de_op op_add4 k_add (de_var 1) de_int) da_nil)) (len_cons (len_cons len_nil))) (da_cons (de_var 2) da_nil))) (len_cons (len_cons (len_cons len_nil)))) da_nil))))
  dss_nil))
theorem fn__law_ends (T : Tab cl K mg) : FnG P w K mg base 1 T.a__law_ends 1 den__law_ends := by
  refine fnG (N := ["hall", "feet", "pairs", "small", "great", "fewest", "sums", "size", "place", "foot", "pair"]) (ps := ["hall"]) T.f__law_ends ⟨rfl, rfl, rfl, by decide +kernel, rfl, by decide +kernel, by decide +kernel⟩ (fun _ _ _ _ _ _ us hl => match us, hl with | [_], _ => rfl) fun cdv A outer s H E ok => ?_
  exact (dss_cons (ds_asg (de_var 0) (dg_tup ok.calm (dgs_cons (dg_name 1 ok.nd) (dgs_cons (dg_name 2 ok.nd) dgs_nil)) (gsC_len (gsC_len gsN_len))))
  (dss_cons (ds_par 3 4 ok (da_cons (de_fz (dn_call (k_orN (k_orN k_sorted k_sortedP) k_sortedT) (da_cons (de_var 1) da_nil) fun pa => pe_callB (callOr (callOr cr_sortedI cr_sortedPO) cr_sortedT) rfl T.b_sorted (by decide +kernel) pa)) (da_cons (de_fz (dn_revL (de_fz (dn_call (k_orN (k_orN k_sorted k_sortedP) k_sortedT) (da_cons (de_var 2) da_nil) fun pa => pe_callB (callOr (callOr cr_sortedI cr_sortedPO) cr_sortedT) rfl T.b_sorted (by decide +kernel) pa)))) da_nil)))
  (dss_cons (ds_asg (de_callV k_len (da_cons (de_fz (dn_lc (own := [("foot", 9), ("pair", 10)]) ok (di_zipB rfl T.b_zip (da_cons (de_var 3) (da_cons (de_var 4) da_nil))) (by kernel_rfl) (fun s H C cl fp ok => (dg_tup ok.calm (dgs_cons (dg_name 9 ok.nd) (dgs_cons (dg_name 10 ok.nd) dgs_nil)) (gsC_len (gsC_len gsN_len)))) (fun s H C cl fp ok => (dts_one (dt_cmp op_ge k_ge (de_var 10) (de_var 9) (nomark _)))) (fun s H C cl fp ok => de_int))) da_nil) fun pa => pe_callB call_len rfl T.b_len (by decide +kernel) pa) (dg_name 5 ok.nd))
  (dss_cons (ds_asg (de_nw (dn_lst (da_cons (de_callV k_len (da_cons (de_var 1) da_nil) fun pa => pe_callB call_len rfl T.b_len (by decide +kernel) pa) da_nil))) (dg_name 6 ok.nd))
  (dss_cons (ds_for ok (di_seq (de_op op_add4 k_add (de_var 1) (de_var 2))) (dg_name 7 ok.nd) (dss_cons (ds_for ok (di_seq (de_tup (da_cons (de_var 7) (da_cons (de_op op_add4 k_add (de_var 7) de_int) da_nil)))) (dg_name 8 ok.nd) (dss_cons (ds_expr (de_ml km_append (de_var 6) (da_cons (de_op op_add4 k_add (de_callV k_len (da_cons (de_fz (dn_lc (own := [("foot", 9)]) ok (di_seq (de_var 1)) (by kernel_rfl) (fun s H C cl fp ok => (dg_name 9 ok.nd)) (fun s H C cl fp ok => (dts_one (dt_cmp op_lt k_lt (de_var 9) (de_var 8) (nomark _)))) (fun s H C cl fp ok => de_int))) da_nil) fun pa => pe_callB call_len rfl T.b_len (by decide +kernel) pa) (de_callV k_len (da_cons (de_fz (dn_lc (own := [("pair", 10)]) ok (di_seq (de_var 2)) (by kernel_rfl) (fun s H C cl fp ok => (dg_name 10 ok.nd)) (fun s H C cl fp ok => (dts_one (dt_cmp op_ge k_ge (de_var 10) (de_var 8) (nomark _)))) (fun s H C cl fp ok => de_int))) da_nil) fun pa => pe_callB call_len rfl T.b_len (by decide +kernel) pa)) da_nil) fun po pa => pe_bm PySem.F.plainAttrs_list PySem.F.slot_list_append PySem.F.type_list_append mt_append po pa))
  dss_nil))
  dss_nil))
  (dss_cons (ds_ret (de_fz (dn_lst (da_cons (de_var 5) (da_cons (de_callV (k_orB (k_orB k_minL k_minP) (k_exT (mx := false))) (da_cons (de_var 6) da_nil) fun pa => pe_callB (callOr (callOr (cr_min ok.calm) (cr_minP ok)) (cr_exT ok false)) rfl T.b_min (by decide +kernel) pa) da_nil)))))
  dss_nil))))))
theorem fn__law_after (T : Tab cl K mg) : FnG P w K mg base 1 T.a__law_after 2 den__law_after := by
  refine fnG (N := ["hall", "edit", "feet", "pairs"]) (ps := ["hall", "edit"]) T.f__law_after ⟨rfl, rfl, rfl, by decide +kernel, rfl, by decide +kernel, by decide +kernel⟩ (fun _ _ _ _ _ _ us hl => match us, hl with | [_, _], _ => rfl) fun cdv A outer s H E ok => ?_
  exact (dss_cons (ds_asg (de_var 0) (dg_tup ok.calm (dgs_cons (dg_name 2 ok.nd) (dgs_cons (dg_name 3 ok.nd) dgs_nil)) (gsC_len (gsC_len gsN_len))))
  (dss_cons (ds_if (dt_cmp (op_eq2 ok.room.units) k_eq (de_ix ix_seq k_ix (de_var 1) de_int) (de_str) (nomark _)) (dss_cons (ds_ret (de_tup (da_cons (de_op op_add4 k_add (de_var 2) (de_tup (da_cons (de_ix ix_seq k_ix (de_var 1) de_int) da_nil))) (da_cons (de_var 3) da_nil))))
  dss_nil) dss_nil)
  (dss_cons (ds_if (dt_cmp (op_eq2 ok.room.units) k_eq (de_ix ix_seq k_ix (de_var 1) de_int) (de_str) (nomark _)) (dss_cons (ds_ret (de_tup (da_cons (de_op op_add4 k_add (de_sl (de_var 2) do_none (do_some (de_ix ix_seq k_ix (de_var 1) de_int))) (de_sl (de_var 2) (do_some (de_op op_add4 k_add (de_ix ix_seq k_ix (de_var 1) de_int) de_int)) do_none)) (da_cons (de_var 3) da_nil))))
  dss_nil) dss_nil)
  (dss_cons (ds_if (dt_cmp (op_eq2 ok.room.units) k_eq (de_ix ix_seq k_ix (de_var 1) de_int) (de_str) (nomark _)) (dss_cons (ds_ret (de_tup (da_cons (de_var 2) (da_cons (de_op op_add4 k_add (de_var 3) (de_tup (da_cons (de_ix ix_seq k_ix (de_var 1) de_int) da_nil))) da_nil))))
  dss_nil) dss_nil)
  (dss_cons (ds_ret (de_tup (da_cons (de_var 2) (da_cons (de_op op_add4 k_add (de_sl (de_var 3) do_none (do_some (de_ix ix_seq k_ix (de_var 1) de_int))) (de_sl (de_var 3) (do_some (de_op op_add4 k_add (de_ix ix_seq k_ix (de_var 1) de_int) de_int)) do_none)) da_nil))))
  dss_nil)))))
theorem fn__law_edit (T : Tab cl K mg) : FnG P w K mg base 2 T.a__law_edit 2 den__law_edit := by
  refine fnG (N := ["deck", "hall", "feet", "pairs", "way", "size"]) (ps := ["deck", "hall"]) T.f__law_edit ⟨rfl, rfl, rfl, by decide +kernel, rfl, by decide +kernel, by decide +kernel⟩ (fun _ _ _ _ _ _ us hl => match us, hl with | [_, _], _ => rfl) fun cdv A outer s H E ok => ?_
  exact (dss_cons (ds_asg (de_var 1) (dg_tup ok.calm (dgs_cons (dg_name 2 ok.nd) (dgs_cons (dg_name 3 ok.nd) dgs_nil)) (gsC_len (gsC_len gsN_len))))
  (dss_cons (ds_par 4 5 ok (da_cons (de_call (fn__law_draw T) ok (by decide) rfl T.m__law_draw T.f__law_draw.kp (da_cons (de_var 0) (da_cons de_int da_nil)) (len_cons (len_cons len_nil))) (da_cons (de_op op_add4 k_add de_int (de_call (fn__law_draw T) ok (by decide) rfl T.m__law_draw T.f__law_draw.kp (da_cons (de_var 0) (da_cons (de_ix ix_seq k_ix (de_fz (dn_lst (da_cons de_int (da_cons de_int (da_cons (de_op op_pow k_pow de_int de_int) da_nil))))) (de_call (fn__law_draw T) ok (by decide) rfl T.m__law_draw T.f__law_draw.kp (da_cons (de_var 0) (da_cons de_int da_nil)) (len_cons (len_cons len_nil)))) da_nil)) (len_cons (len_cons len_nil)))) da_nil)))
  (dss_cons (ds_if (dt_w (dw_or (dt_w (dw_and (dt_cmp (op_eq2 ok.room.units) k_eq (de_var 4) de_int (nomark _)) (dw_and1 (dt_cmp op_gt k_gt (de_callV k_len (da_cons (de_var 2) da_nil) fun pa => pe_callB call_len rfl T.b_len (by decide +kernel) pa) de_int (nomark _))))) (dw_or1 (dt_w (dw_and (dt_cmp (op_eq2 ok.room.units) k_eq (de_callV k_len (da_cons (de_var 2) da_nil) fun pa => pe_callB call_len rfl T.b_len (by decide +kernel) pa) de_int (nomark _)) (dw_and1 (dt_cmp op_lt k_lt (de_var 4) de_int (nomark _)))))))) (dss_cons (ds_ret (de_tup (da_cons (de_str) (da_cons (de_call (fn__law_draw T) ok (by decide) rfl T.m__law_draw T.f__law_draw.kp (da_cons (de_var 0) (da_cons (de_callV k_len (da_cons (de_var 2) da_nil) fun pa => pe_callB call_len rfl T.b_len (by decide +kernel) pa) da_nil)) (len_cons (len_cons len_nil))) da_nil))))
  dss_nil) dss_nil)
  (dss_cons (ds_if (dt_cmp op_lt k_lt (de_var 4) de_int (nomark _)) (dss_cons (ds_ret (de_tup (da_cons (de_str) (da_cons (de_var 5) da_nil))))
  dss_nil) dss_nil)
  (dss_cons (ds_if (dt_w (dw_or (dt_w (dw_and (dt_cmp (op_eq2 ok.room.units) k_eq (de_var 4) de_int (nomark _)) (dw_and1 (dt_cmp (op_ne2 ok.room.units) k_ne (de_var 3) (de_tup da_nil) (nomark _))))) (dw_or1 (dt_cmp (op_eq2 ok.room.units) k_eq (de_callV k_len (da_cons (de_var 3) da_nil) fun pa => pe_callB call_len rfl T.b_len (by decide +kernel) pa) de_int (nomark _))))) (dss_cons (ds_ret (de_tup (da_cons (de_str) (da_cons (de_call (fn__law_draw T) ok (by decide) rfl T.m__law_draw T.f__law_draw.kp (da_cons (de_var 0) (da_cons (de_callV k_len (da_cons (de_var 3) da_nil) fun pa => pe_callB call_len rfl T.b_len (by decide +kernel) pa) da_nil)) (len_cons (len_cons len_nil))) da_nil))))
  dss_nil) dss_nil)
  (dss_cons (ds_ret (de_tup (da_cons (de_str) (da_cons (de_var 5) da_nil))))
  dss_nil))))))
theorem fn__law_do (T : Tab cl K mg) : FnG P w K mg base 6 T.a__law_do 2 (den__law_do cl) := by
  refine fnG (N := ["table", "edit"]) (ps := ["table", "edit"]) T.f__law_do ⟨rfl, rfl, rfl, by decide +kernel, rfl, by decide +kernel, by decide +kernel⟩ (fun _ _ _ _ _ _ us hl => match us, hl with | [_, _], _ => rfl) fun cdv A outer s H E ok => ?_
  exact (dss_cons (ds_if (dt_cmp (op_eq2 ok.room.units) k_eq (de_ix ix_seq k_ix (de_var 1) de_int) (de_str) (nomark _)) (dss_cons (ds_ret (de_meth (fn_Party_come T) ok (by decide) T.c_Party T.me_Party_come (de_var 0) (da_cons (de_ix ix_seq k_ix (de_var 1) de_int) da_nil) (len_cons len_nil)))
  dss_nil) dss_nil)
  (dss_cons (ds_if (dt_cmp (op_eq2 ok.room.units) k_eq (de_ix ix_seq k_ix (de_var 1) de_int) (de_str) (nomark _)) (dss_cons (ds_ret (de_meth (fn_Party_leave T) ok (by decide) T.c_Party T.me_Party_leave (de_var 0) (da_cons (de_ix ix_seq k_ix (de_var 1) de_int) da_nil) (len_cons len_nil)))
  dss_nil) dss_nil)
  (dss_cons (ds_if (dt_cmp (op_eq2 ok.room.units) k_eq (de_ix ix_seq k_ix (de_var 1) de_int) (de_str) (nomark _)) (dss_cons (ds_ret (de_meth (fn_Party_put T) ok (by decide) T.c_Party T.me_Party_put (de_var 0) (da_cons (de_ix ix_seq k_ix (de_var 1) de_int) da_nil) (len_cons len_nil)))
  dss_nil) dss_nil)
  (dss_cons (ds_ret (de_meth (fn_Party_take T) ok (by decide) T.c_Party T.me_Party_take (de_var 0) (da_cons (de_ix ix_seq k_ix (de_var 1) de_int) da_nil) (len_cons len_nil)))
  dss_nil))))
theorem fn__law_right (T : Tab cl K mg) : FnG P w K mg base 4 T.a__law_right 3 (den__law_right cl) := by
  refine fnG (N := ["table", "hall", "edits", "fewest", "most", "found", "words"]) (ps := ["table", "hall", "edits"]) T.f__law_right ⟨rfl, rfl, rfl, by decide +kernel, rfl, by decide +kernel, by decide +kernel⟩ (fun _ _ _ _ _ _ us hl => match us, hl with | [_, _, _], _ => rfl) fun cdv A outer s H E ok => ?_
  exact (dss_cons (ds_unp ok (de_call (fn__law_ends T) ok (by decide) rfl T.m__law_ends T.f__law_ends.kp (da_cons (de_var 1) da_nil) (len_cons len_nil)) (dgs_cons (dg_name 3 ok.nd) (dgs_cons (dg_name 4 ok.nd) dgs_nil)) (gsC_len (gsC_len gsN_len)) fun h => pg_unl ok.calm h)
  (dss_cons (ds_asg (de_fz (dn_lst (da_cons (de_prop (fn_Party_hall T) ok (by decide) T.c_Party T.p_Party_hall (de_var 0)) (da_cons (de_prop (fn_Party_fewest T) ok (by decide) T.c_Party T.p_Party_fewest (de_var 0)) (da_cons (de_prop (fn_Party_most T) ok (by decide) T.c_Party T.p_Party_most (de_var 0)) (da_cons (de_meth0 (fn_Party_state T) ok (by decide) T.c_Party T.me_Party_state (de_var 0)) (da_cons (de_meth0 (fn_Party_edits T) ok (by decide) T.c_Party T.me_Party_edits (de_var 0)) (da_cons (de_callV k_lenO (da_cons (de_var 0) da_nil) fun pa => pe_callB (call_lenO (fn_Party___len__ T) ok (by decide) T.me_Party___len__.at_ T.me_Party___len__.fn) rfl T.b_len (by decide +kernel) pa) da_nil)))))))) (dg_name 5 ok.nd))
  (dss_cons (ds_if (dt_cmp (op_ne2 ok.room.units) k_ne (de_callV k_repr (da_cons (de_var 5) da_nil) fun pa => pe_callB (call_reprQ ok.q) rfl T.b_repr (by decide +kernel) pa) (de_callV k_repr (da_cons (de_fz (dn_lst (da_cons (de_var 1) (da_cons (de_var 3) (da_cons (de_var 4) (da_cons (de_var 1) (da_cons (de_callV k_tuple (da_cons (de_var 2) da_nil) fun pa => pe_callTy call_tuple_of rfl T.b_tuple (by decide +kernel) pa) (da_cons (de_callV k_len (da_cons (de_var 2) da_nil) fun pa => pe_callB call_len rfl T.b_len (by decide +kernel) pa) da_nil)))))))) da_nil) fun pa => pe_callB (call_reprQ ok.q) rfl T.b_repr (by decide +kernel) pa) (nomark _)) (dss_cons (ds_ret de_bl)
  dss_nil) dss_nil)
  (dss_cons (ds_asg (de_fz (dn_lst (da_cons (de_callV k_strI (da_cons (de_callV k_len (da_cons (de_ix ix_seq k_ix (de_var 1) de_int) da_nil) fun pa => pe_callB call_len rfl T.b_len (by decide +kernel) pa) da_nil) fun pa => pe_callTy call_str_int rfl T.b_str (by decide +kernel) pa) (da_cons (de_str) (da_cons (de_callV k_strI (da_cons (de_callV k_len (da_cons (de_ix ix_seq k_ix (de_var 1) de_int) da_nil) fun pa => pe_callB call_len rfl T.b_len (by decide +kernel) pa) da_nil) fun pa => pe_callTy call_str_int rfl T.b_str (by decide +kernel) pa) (da_cons (de_str) (da_cons (de_callV k_strI (da_cons (de_var 3) da_nil) fun pa => pe_callTy call_str_int rfl T.b_str (by decide +kernel) pa) (da_cons (de_str) (da_cons (de_op op_add4 k_add (de_callV k_strI (da_cons (de_var 4) da_nil) fun pa => pe_callTy call_str_int rfl T.b_str (by decide +kernel) pa) (de_str)) da_nil))))))))) (dg_name 6 ok.nd))
  (dss_cons (ds_ret (de_cmp (op_eq2 ok.room.units) mono_eq2 k_eq (de_callV k_strO (da_cons (de_var 0) da_nil) fun pa => pe_callTy (call_strO (fn_Party___str__ T) ok (by decide) T.me_Party___str__.at_ T.me_Party___str__.fn) rfl T.b_str (by decide +kernel) pa) (de_join (de_str) (de_op op_add4 k_add (de_var 6) (de_fz (dn_lst (da_cons (de_callV k_strI (da_cons (de_callV k_len (da_cons (de_var 2) da_nil) fun pa => pe_callB call_len rfl T.b_len (by decide +kernel) pa) da_nil) fun pa => pe_callTy call_str_int rfl T.b_str (by decide +kernel) pa) (da_cons (de_str) da_nil)))))) (nomark _)))
  dss_nil)))))
theorem fn_law (T : Tab cl K mg) : FnG P w K mg base 7 T.a_law 1 (den_law cl) := by
  refine fnG (N := ["script", "deck", "turn", "hall", "edits", "table", "time"]) (ps := ["script"]) T.f_law ⟨rfl, rfl, rfl, by decide +kernel, rfl, by decide +kernel, by decide +kernel⟩ (fun _ _ _ _ _ _ us hl => match us, hl with | [_], _ => rfl) fun cdv A outer s H E ok => ?_
  exact (dss_cons (ds_asg (de_call (fn__law_deck T) ok (by decide) rfl T.m__law_deck T.f__law_deck.kp (da_cons (de_var 0) da_nil) (len_cons len_nil)) (dg_name 1 ok.nd))
  (dss_cons (ds_for ok (di_range1 rfl T.b_range (da_cons de_int da_nil) (hn := (len_cons len_nil))) (dg_name 2 ok.nd) (dss_cons (ds_par 3 4 ok (da_cons (de_call (fn__law_hall T) ok (by decide) rfl T.m__law_hall T.f__law_hall.kp (da_cons (de_var 1) (da_cons (de_ix ix_seq k_ix (de_fz (dn_lst (da_cons de_int (da_cons de_int (da_cons de_int da_nil))))) (de_var 2)) da_nil)) (len_cons (len_cons len_nil))) (da_cons (de_nw (dn_lst da_nil)) da_nil)))
  (dss_cons (ds_asg (de_make T.k_Party (fn_Party___init__ T) ok (by decide) rfl T.m_Party (da_cons (de_var 3) da_nil) (len_cons len_nil)) (dg_name 5 ok.nd))
  (dss_cons (ds_for ok (di_range1 rfl T.b_range (da_cons (de_op op_add4 k_add de_int (de_call (fn__law_draw T) ok (by decide) rfl T.m__law_draw T.f__law_draw.kp (da_cons (de_var 1) (da_cons de_int da_nil)) (len_cons (len_cons len_nil)))) da_nil) (hn := (len_cons len_nil))) (dg_name 6 ok.nd) (dss_cons (ds_expr (de_ml km_append (de_var 4) (da_cons (de_call (fn__law_edit T) ok (by decide) rfl T.m__law_edit T.f__law_edit.kp (da_cons (de_var 1) (da_cons (de_var 3) da_nil)) (len_cons (len_cons len_nil))) da_nil) fun po pa => pe_bm PySem.F.plainAttrs_list PySem.F.slot_list_append PySem.F.type_list_append mt_append po pa))
  (dss_cons (ds_asg (de_call (fn__law_after T) ok (by decide) rfl T.m__law_after T.f__law_after.kp (da_cons (de_var 3) (da_cons (de_ix ix_seq k_ix (de_var 4) (de_un un_neg k_neg de_int)) da_nil)) (len_cons (len_cons len_nil))) (dg_name 3 ok.nd))
  (dss_cons (ds_if (dt_w (dw_or (dt_cmp (op_ne2 ok.room.units) k_ne (de_callV k_repr (da_cons (de_call (fn__law_do T) ok (by decide) rfl T.m__law_do T.f__law_do.kp (da_cons (de_var 5) (da_cons (de_ix ix_seq k_ix (de_var 4) (de_un un_neg k_neg de_int)) da_nil)) (len_cons (len_cons len_nil))) da_nil) fun pa => pe_callB (call_reprQ ok.q) rfl T.b_repr (by decide +kernel) pa) (de_callV k_repr (da_cons (de_callV k_len (da_cons (de_var 4) da_nil) fun pa => pe_callB call_len rfl T.b_len (by decide +kernel) pa) da_nil) fun pa => pe_callB (call_reprQ ok.q) rfl T.b_repr (by decide +kernel) pa) (nomark _)) (dw_or1 (dt_not (dt_val (de_call (fn__law_right T) ok (by decide) rfl T.m__law_right T.f__law_right.kp (da_cons (de_var 5) (da_cons (de_var 3) (da_cons (de_var 4) da_nil))) (len_cons (len_cons (len_cons len_nil))))))))) (dss_cons (ds_ret de_bl)
  dss_nil) dss_nil)
  dss_nil))))
  dss_nil))))
  (dss_cons (ds_ret de_bl)
  dss_nil)))
end

local macro_rules | `(tactic| walk_at "ev1") => `(tactic| with_reducible first
  | refine wp_var rfl ?_
  | rewrite [wp_runB]
  | rewrite [ws_seq]
  | rewrite [ws_next]
  | rewrite [ws_break]
  | rewrite [ws_cont]
  | rewrite [ws_drop]
  | rewrite [ws_ret]
  | rewrite [ws_retN]
  | rewrite [ws_asg]
  | rewrite [wp_star]
  | rewrite [wp_sortSet]
  | rewrite [wp_addN]
  | refine wp_val_ok spread_lst ?_
  | refine wp_val_ok spread_tup ?_
  | rewrite [ws_par]
  | rewrite [ws_parN]
  | rewrite [ws_sub]
  | rewrite [ws_for]
  | rewrite [wp_k]
  | rewrite [wp_nil]
  | rewrite [wp_cons]
  | rewrite [wp_tup]
  | rewrite [wp_dis]
  | rewrite [wp_fz]
  | rewrite [wp_nw]
  | rewrite [wp_un]
  | rewrite [wp_op]
  | rewrite [wp_cm]
  | rewrite [wp_ch]
  | rewrite [wp_bl]
  | rewrite [wp_val]
  | rewrite [wp_asB]
  | rewrite [wp_if]
  | rewrite [wp_and]
  | rewrite [wp_or]
  | rewrite [wp_not]
  | rewrite [wp_andV]
  | rewrite [wp_orV]
  | rewrite [wp_notV]
  | rewrite [wp_call]
  | rewrite [wp_callN]
  | rewrite [wp_items]
  | rewrite [wp_range]
  | rewrite [wp_enum]
  | rewrite [wp_lc]
  | rewrite [wp_lcL]
  | rewrite [wp_sl]
  | rewrite [wp_slZ]
  | rewrite [wp_tupZ]
  | rewrite [wp_oN]
  | rewrite [wp_oS]
  | rewrite [wp_oI]
  | rewrite [wp_lrg1]
  | rewrite [wp_lrg2]
  | rewrite [wp_trg1]
  | rewrite [wp_revL]
  | rewrite [wp_ml]
  | rewrite [wp_ml0]
  | rewrite [wp_ms]
  | rewrite [ws_put]
  | rewrite [ws_par3]
  | rewrite [ws_parN3]
  | rewrite [wp_newK]
  | rewrite [wp_newT]
  | rewrite [wp_yes]
  | rewrite [wp_ok]
  | refine wp_val_ok fAdd_int ?_
  | refine wp_val_ok fSub_int ?_
  | refine wp_val_ok fLt_int ?_
  | refine wp_val_ok fLe_int ?_
  | refine wp_val_ok fGt_int ?_
  | refine wp_val_ok fGe_int ?_
  | refine wp_val_ok fNeg_int ?_
  | refine wp_val_ok fLen_lst ?_
  | refine wp_val_ok fLen_tup ?_
  | refine wp_val_ok fLen_str ?_
  | refine wp_val_ok fTuple_lst ?_
  | refine wp_val_ok fTuple_tup ?_
  | refine wp_val_ok fList_lst ?_
  | refine wp_val_ok fList_tup ?_
  | refine wp_val_ok fInt_int ?_
  | refine wp_val_ok fInt_bl ?_
  | refine wp_val_ok fAbs_int ?_
  | refine wp_val_ok fMax2_int ?_
  | refine wp_val_ok fMin2_int ?_
  | refine wp_val_ok seqI_lst ?_
  | refine wp_val_ok seqI_tup ?_
  | refine wp_val_ok seqI_scr ?_
  | refine wp_val_ok fCut_scr ?_
  | refine wp_val_ok fEq_str ?_
  | refine wp_val_ok fNe_str ?_
  | refine wp_val_ok fEq_int ?_
  | refine wp_val_ok fNe_int ?_
  | refine wp_val_ok fIsB_bl ?_
  | refine wp_val_ok fNotB_bl ?_
  | refine toN_ok rfl ?_
  | refine And.intro (show _ ≤ sizeLine by (first | decide | (simp only [List.length_cons, List.length_nil, List.length_map]; decide))) ?_)
local macro_rules | `(tactic| walk_at "ev") => `(tactic| repeat walk_at "ev1")
local macro_rules | `(tactic| walk_at "go1") => `(tactic| first
  | walk_at "ev1"
  | with_reducible rewrite [ws_if]
  | with_reducible rewrite [ws_unp]
  | with_reducible refine ite_t (by first | rfl | exact yes_same | decide) ?_
  | with_reducible refine ite_f (by first | exact Bool.false_ne_true | exact not_same | decide) ?_
  | with_reducible refine wp_mod (by first | decide | omega) ?_
  | with_reducible refine wp_div (by first | decide | omega) (by first | decide | omega) ?_
  | with_reducible refine wp_mulL (by first | decide | omega) (by first | decide | omega) ?_
  | with_reducible refine wp_pow (by first | decide | omega) (by first | decide | omega) (by first | decide | omega) ?_
  | with_reducible refine seq_lstI ?_
  | with_reducible refine ite_t (by simp only [decide_eq_true_eq, beq_iff_eq, Bool.not_eq_true', beq_eq_false_iff_ne, ne_eq, Bool.not_eq_false', decide_eq_false_iff_not, List.length_cons, List.length_nil, List.length_map]; omega) ?_
  | with_reducible refine ite_f (by simp only [decide_eq_true_eq, beq_iff_eq, Bool.not_eq_true', beq_eq_false_iff_ne, ne_eq, Bool.not_eq_false', decide_eq_false_iff_not, List.length_cons, List.length_nil, List.length_map]; omega) ?_
  | with_reducible rewrite [wp_zip]
  | with_reducible rewrite [wp_zipB]
  | with_reducible refine wp_val_ok zipB_ll ?_
  | with_reducible refine wp_val_ok zipB_tt ?_
  | with_reducible refine wp_val_ok zipB_lt ?_
  | with_reducible refine wp_val_ok fZip_lst ?_
  | with_reducible refine wp_val_ok fZip_tup ?_
  | with_reducible refine wp_sorted ?_
  | with_reducible refine srt_i ?_
  | with_reducible refine srt_t ?_
  | with_reducible refine wp_val_ok fEnum_tup ?_
  | with_reducible refine wp_val_ok fEnum_lst ?_
  | with_reducible rewrite [wp_sortSet2]
  | with_reducible refine wp_val_ok isi_int_int ?_
  | with_reducible refine wp_val_ok isi_int_bool ?_
  | with_reducible refine wp_val_ok isi_tup_tup ?_
  | with_reducible refine wp_val_ok isi_str_str ?_
  | with_reducible refine wp_revInt ?_
  | with_reducible refine And.intro isLs_lst ?_
  | with_reducible refine wp_val_ok (fCut_take (by first | decide | omega)) ?_
  | with_reducible refine wp_val_ok (fCut_drop (by first | decide | omega)) ?_
  | with_reducible refine wp_val_ok fCut_tup ?_
  | with_reducible refine wp_val_ok (cutL_drop (by first | decide | omega)) ?_
  | with_reducible refine wp_val_ok (cutL_take (by first | decide | omega)) ?_
  | with_reducible refine wp_val_ok fCut_lst ?_
  | with_reducible refine wp_val_ok isN_int ?_
  | with_reducible refine wp_val_ok isN_non ?_
  | with_reducible refine wp_val_ok isN_tup ?_
  | with_reducible refine wp_val_ok notN_int ?_
  | with_reducible refine wp_val_ok notN_non ?_
  | with_reducible refine wp_val_ok notN_tup ?_
  | with_reducible refine wp_val_ok fNe_bl ?_
  | with_reducible refine wp_val_ok fEq_bl ?_
  | with_reducible refine wp_val_ok min_l2 ?_
  | with_reducible refine wp_val_ok ix_t0 ?_
  | with_reducible refine wp_val_ok ix_t1 ?_
  | with_reducible refine wp_val_ok ix_l0 ?_
  | with_reducible refine wp_val_ok ix_l1 ?_
  | with_reducible refine wp_val_ok max_t2 ?_
  | with_reducible refine wp_val_ok max_l2 ?_
  | with_reducible refine wp_val_ok sum_t2 ?_
  | with_reducible refine wp_val_ok sum_l2 ?_
  | with_reducible refine And.intro (line_le (by simp only [List.length_map, List.length_append, List.length_cons, List.length_nil]; omega)) ?_
  | with_reducible refine wp_ix_tup rfl ?_
  | with_reducible refine wp_ix_lst rfl ?_
  | with_reducible refine wp_ix_loc (by assumption) (by assumption) ?_
  | with_reducible refine wp_len_loc (by assumption) ?_
  | with_reducible refine And.intro (isLs_loc (by assumption)) ?_
  | with_reducible refine wp_range1 (by first | omega | decide | (simp only [List.length_map]; omega)) (by first | decide | omega | (simp only [List.length_map]; omega)) ?_)
local macro_rules | `(tactic| walk_at "go") => `(tactic| repeat walk_at "go1")
local macro_rules | `(tactic| walk_at "lcT") => `(tactic| (apply lc_mapT; (focus (intro x hx; walk_at "go"; exact ⟨rfl, rfl⟩))))
local macro_rules | `(tactic| walk_at "lcF") => `(tactic| (apply lc_map; (focus (intro x hx; walk_at "go"; refine ⟨rfl, rfl, fun _ => ?_⟩; walk_at "go"; exact ⟨rfl, rfl⟩))))

/-! plain law of shoes: numbers of feet and pairs, runs told by sizes -/
def lt (f : List Int) (s : Int) : Nat := f.countP fun x => decide (x < s)
def ge (p : List Int) (s : Int) : Nat := p.countP fun x => decide (s ≤ x)
theorem lt_nil {s : Int} : lt [] s = 0 := rfl
theorem ge_nil {s : Int} : ge [] s = 0 := rfl
theorem lt_cons {x s : Int} {f : List Int} : lt (x :: f) s = lt f s + if x < s then 1 else 0 := by
  unfold lt; rw [List.countP_cons]; simp
theorem ge_cons {x s : Int} {f : List Int} : ge (x :: f) s = ge f s + if s ≤ x then 1 else 0 := by
  unfold ge; rw [List.countP_cons]; simp
theorem lt_app {f g : List Int} {s : Int} : lt (f ++ g) s = lt f s + lt g s := List.countP_append ..
theorem ge_app {f g : List Int} {s : Int} : ge (f ++ g) s = ge f s + ge g s := List.countP_append ..
theorem lt_perm {f g : List Int} {s : Int} (h : f.Perm g) : lt f s = lt g s := h.countP_eq _
theorem ge_perm {f g : List Int} {s : Int} (h : f.Perm g) : ge f s = ge g s := h.countP_eq _
theorem lt_len {f : List Int} {s : Int} : lt f s ≤ f.length := List.countP_le_length
theorem ge_len {f : List Int} {s : Int} : ge f s ≤ f.length := List.countP_le_length
theorem lt_mono {f : List Int} {s t : Int} (h : s ≤ t) : lt f s ≤ lt f t := List.countP_mono_left fun x _ hx => by simp at hx ⊢; omega
theorem ge_mono {f : List Int} {s t : Int} (h : s ≤ t) : ge f t ≤ ge f s := List.countP_mono_left fun x _ hx => by simp at hx ⊢; omega
theorem lt_zero {f : List Int} {s : Int} (h : ∀ x ∈ f, s ≤ x) : lt f s = 0 := List.countP_eq_zero.mpr fun x hx => by have := h x hx; simp; omega
theorem ge_zero {f : List Int} {s : Int} (h : ∀ x ∈ f, x < s) : ge f s = 0 := List.countP_eq_zero.mpr fun x hx => by have := h x hx; simp; omega
theorem lt_all {f : List Int} {s : Int} (h : ∀ x ∈ f, x < s) : lt f s = f.length := List.countP_eq_length.mpr fun x hx => by simp [h x hx]
theorem ge_all {f : List Int} {s : Int} (h : ∀ x ∈ f, s ≤ x) : ge f s = f.length := List.countP_eq_length.mpr fun x hx => by simp [h x hx]
theorem ge_erase {L : List Int} {q s : Int} (h : q ∈ L) : ge L s = ge (L.erase q) s + if s ≤ q then 1 else 0 := by
  rw [ge_perm (List.perm_cons_erase h), ge_cons]
theorem lt_ge {f : List Int} {s : Int} : lt f s + ge f s = f.length := by
  induction f with
  | nil => rfl
  | cons x f ih => rw [lt_cons, ge_cons, List.length_cons]; split <;> split <;> omega
theorem above (f : List Int) : ∃ s : Int, ∀ x ∈ f, x < s := by
  induction f with
  | nil => exact ⟨0, by simp⟩
  | cons x f ih =>
    obtain ⟨s, h⟩ := ih
    refine ⟨max s (x + 1), fun y hy => ?_⟩
    rcases List.mem_cons.mp hy with rfl | hy
    · omega
    · have := h y hy; omega
/-- a run by sizes: the feet in order, each with the size taken -/
def Go : List Int → List (Int × Option Int) → Prop
  | _, [] => True
  | L, (f, none) :: r => (∀ q ∈ L, q < f) ∧ Go L r
  | L, (f, some q) :: r => f ≤ q ∧ q ∈ L ∧ Go (L.erase q) r
def sv (r : List (Int × Option Int)) : Nat := r.countP fun x => x.2.isSome
def ftr (r : List (Int × Option Int)) : List Int := r.map (·.1)
theorem sv_none {f : Int} {r : List (Int × Option Int)} : sv ((f, none) :: r) = sv r := by unfold sv; rw [List.countP_cons]; simp
theorem sv_some {f q : Int} {r : List (Int × Option Int)} : sv ((f, some q) :: r) = sv r + 1 := by unfold sv; rw [List.countP_cons]; simp
theorem ftr_cons {f : Int} {o : Option Int} {r : List (Int × Option Int)} : ftr ((f, o) :: r) = f :: ftr r := rfl
theorem sv_le {r : List (Int × Option Int)} : sv r ≤ (ftr r).length := by unfold ftr; rw [List.length_map]; exact List.countP_le_length
theorem Go.perm : ∀ {r : List (Int × Option Int)} {L M : List Int}, L.Perm M → Go L r → Go M r
  | [], _, _, _, _ => trivial
  | (f, none) :: r, _, _, p, h => ⟨fun q hq => h.1 q (p.mem_iff.mpr hq), h.2.perm p⟩
  | (f, some q) :: r, _, _, p, h => ⟨h.1, p.mem_iff.mp h.2.1, h.2.2.perm (p.erase q)⟩
/-- never more than the feet below and the pairs from a size on -/
theorem go_le {s : Int} : ∀ {r : List (Int × Option Int)} {L : List Int}, Go L r → sv r ≤ lt (ftr r) s + ge L s
  | [], _, _ => Nat.zero_le _
  | (f, none) :: r, L, h => by
    have := go_le (s := s) h.2
    rw [sv_none, ftr_cons, lt_cons]; omega
  | (f, some q) :: r, L, h => by
    have := go_le (s := s) h.2.2
    rw [sv_some, ftr_cons, lt_cons, ge_erase h.2.1]
    have := h.1
    split <;> split <;> omega
/-- a foot without: the pairs that fit are all taken -/
theorem go_free {s : Int} : ∀ {r : List (Int × Option Int)} {L : List Int}, Go L r → (s, none) ∈ r → ge L s ≤ sv r
  | (f, none) :: r, L, h, hs => by
    rw [sv_none]
    rcases List.mem_cons.mp hs with e | hs
    · cases e; rw [ge_zero h.1]; exact Nat.zero_le _
    · exact go_free h.2 hs
  | (f, some q) :: r, L, h, hs => by
    rw [sv_some, ge_erase h.2.1]
    rcases List.mem_cons.mp hs with e | hs
    · cases e
    · have := go_free h.2.2 hs
      split <;> omega
theorem sv_or : ∀ (r : List (Int × Option Int)), sv r = (ftr r).length ∨ ∃ s, (s, none) ∈ r ∧ ∀ x, (x, none) ∈ r → s ≤ x
  | [] => .inl rfl
  | (f, some q) :: r => by
    rcases sv_or r with h | ⟨s, h1, h2⟩
    · exact .inl (by rw [sv_some, ftr_cons, List.length_cons, h])
    · exact .inr ⟨s, List.mem_cons_of_mem _ h1, fun x hx => h2 x (by simpa using hx)⟩
  | (f, none) :: r => by
    rcases sv_or r with h | ⟨s, h1, h2⟩
    · refine .inr ⟨f, List.mem_cons_self .., fun x hx => ?_⟩
      rcases List.mem_cons.mp hx with e | hx
      · cases e; exact Int.le_refl _
      · exfalso
        unfold sv ftr at h
        rw [List.length_map, List.countP_eq_length] at h
        exact absurd (h _ hx) (by simp)
    · by_cases hf : f ≤ s
      · refine .inr ⟨f, List.mem_cons_self .., fun x hx => ?_⟩
        rcases List.mem_cons.mp hx with e | hx
        · cases e; exact Int.le_refl _
        · have := h2 x hx; omega
      · refine .inr ⟨s, List.mem_cons_of_mem _ h1, fun x hx => ?_⟩
        rcases List.mem_cons.mp hx with e | hx
        · cases e; omega
        · exact h2 x hx
theorem lt_sv {s : Int} : ∀ {r : List (Int × Option Int)}, (∀ x, (x, none) ∈ r → s ≤ x) → lt (ftr r) s ≤ sv r
  | [], _ => Nat.le_refl _
  | (f, none) :: r, h => by
    have := lt_sv fun x hx => h x (List.mem_cons_of_mem _ hx)
    have := h f (List.mem_cons_self ..)
    rw [sv_none, ftr_cons, lt_cons, if_neg (by omega)]; omega
  | (f, some q) :: r, h => by
    have := lt_sv fun x hx => h x (List.mem_cons_of_mem _ hx)
    rw [sv_some, ftr_cons, lt_cons]; split <;> omega
/-- in each run at some size both numbers are at most the served -/
theorem go_ge {r : List (Int × Option Int)} {L : List Int} (h : Go L r) : ∃ s, lt (ftr r) s ≤ sv r ∧ ge L s ≤ sv r := by
  rcases sv_or r with e | ⟨s, h1, h2⟩
  · obtain ⟨s, hs⟩ := above L
    exact ⟨s, by rw [e]; exact lt_len, by rw [ge_zero hs]; exact Nat.zero_le _⟩
  · exact ⟨s, lt_sv h2, go_free h h1⟩
/-- each takes the smallest that fits -/
def GoS : List Int → List (Int × Option Int) → Prop
  | _, [] => True
  | L, (f, none) :: r => (∀ q ∈ L, q < f) ∧ GoS L r
  | L, (f, some q) :: r => f ≤ q ∧ q ∈ L ∧ (∀ x ∈ L, f ≤ x → q ≤ x) ∧ GoS (L.erase q) r
theorem GoS.go : ∀ {r : List (Int × Option Int)} {L : List Int}, GoS L r → Go L r
  | [], _, _ => trivial
  | (_, none) :: _, _, h => ⟨h.1, h.2.go⟩
  | (_, some _) :: _, _, h => ⟨h.1, h.2.1, h.2.2.2.go⟩
theorem ge_gap {L : List Int} {f q : Int} (h : ∀ x ∈ L, f ≤ x → q ≤ x) : ge L f ≤ ge L q :=
  List.countP_mono_left fun x hx hf => by simp at hf ⊢; exact h x hx hf
/-- all take the smallest: as many as at some size -/
theorem goS_ex : ∀ {r : List (Int × Option Int)} {L : List Int}, GoS L r → ∃ s, lt (ftr r) s + ge L s ≤ sv r
  | [], L, _ => by
    obtain ⟨s, hs⟩ := above L
    exact ⟨s, by rw [ge_zero hs]; exact Nat.le_refl _⟩
  | (f, none) :: r, L, h => by
    obtain ⟨s, hs⟩ := goS_ex h.2
    by_cases hf : f < s
    · refine ⟨f, ?_⟩
      have := lt_mono (f := ftr r) (Int.le_of_lt hf)
      rw [sv_none, ftr_cons, lt_cons, if_neg (by omega), ge_zero h.1]; omega
    · exact ⟨s, by rw [sv_none, ftr_cons, lt_cons, if_neg hf]; omega⟩
  | (f, some q) :: r, L, h => by
    obtain ⟨s, hs⟩ := goS_ex h.2.2.2
    have e := ge_erase (s := s) h.2.1
    have hq := h.1
    by_cases hf : f < s
    · by_cases hs2 : s ≤ q
      · refine ⟨f, ?_⟩
        have := lt_mono (f := ftr r) (Int.le_of_lt hf)
        have := ge_gap h.2.2.1
        have := ge_mono (f := L) hs2
        rw [if_pos hs2] at e
        rw [sv_some, ftr_cons, lt_cons, if_neg (by omega)]; omega
      · rw [if_neg hs2] at e
        exact ⟨s, by rw [sv_some, ftr_cons, lt_cons, if_pos hf]; omega⟩
    · refine ⟨s, ?_⟩
      rw [sv_some, ftr_cons, lt_cons, if_neg hf, e]
      split <;> omega
/-- each takes the largest, if it fits -/
def GoL : List Int → List (Int × Option Int) → Prop
  | _, [] => True
  | L, (f, none) :: r => (∀ q ∈ L, q < f) ∧ GoL L r
  | L, (f, some q) :: r => f ≤ q ∧ q ∈ L ∧ (∀ x ∈ L, x ≤ q) ∧ GoL (L.erase q) r
theorem GoL.go : ∀ {r : List (Int × Option Int)} {L : List Int}, GoL L r → Go L r
  | [], _, _ => trivial
  | (_, none) :: _, _, h => ⟨h.1, h.2.go⟩
  | (_, some _) :: _, _, h => ⟨h.1, h.2.1, h.2.2.2.go⟩
theorem goL_none : ∀ {r : List (Int × Option Int)} {L : List Int}, GoL L r → (∀ x ∈ ftr r, ∀ q ∈ L, q < x) → sv r = 0
  | [], _, _, _ => rfl
  | (f, none) :: r, L, h, o => by rw [sv_none]; exact goL_none h.2 fun x hx => o x (List.mem_cons_of_mem _ hx)
  | (f, some q) :: r, L, h, o => by
    have := o f (List.mem_cons_self ..) q h.2.1
    have := h.1
    omega
/-- all take the largest, smaller feet first -/
theorem goL_asc {s : Int} : ∀ {r : List (Int × Option Int)} {L : List Int}, GoL L r → (ftr r).Pairwise (· ≤ ·) → sv r ≤ lt (ftr r) s ∨ sv r ≤ ge L s
  | [], L, _, _ => .inl (Nat.zero_le _)
  | (f, none) :: r, L, h, o => by
    rw [ftr_cons] at o
    refine .inl ?_
    rw [sv_none, goL_none h.2 fun x hx q hq => ?_]
    · exact Nat.zero_le _
    · have := (List.pairwise_cons.mp o).1 x hx
      have := h.1 q hq
      omega
  | (f, some q) :: r, L, h, o => by
    rw [ftr_cons] at o ⊢
    have o := List.pairwise_cons.mp o
    have ih := goL_asc (s := s) h.2.2.2 o.2
    have hq := h.1
    rw [sv_some, ge_erase h.2.1, lt_cons]
    by_cases hf : f < s
    · rw [if_pos hf]
      by_cases hs : s ≤ q
      · rw [if_pos hs]; omega
      · rw [if_neg hs]
        have : ge (L.erase q) s = 0 := ge_zero fun x hx => by have := h.2.2.1 x (List.mem_of_mem_erase hx); omega
        omega
    · rw [if_neg hf, if_pos (by omega)]
      have : lt (ftr r) s = 0 := lt_zero fun x hx => by have := o.1 x hx; omega
      omega
/-- all take the largest, larger feet first -/
theorem goL_most : ∀ {r : List (Int × Option Int)} {L : List Int}, GoL L r → (ftr r).Pairwise (fun a b => b ≤ a) → ∃ s, lt (ftr r) s + ge L s ≤ sv r
  | [], L, _, _ => by
    obtain ⟨s, hs⟩ := above L
    exact ⟨s, by rw [ge_zero hs]; exact Nat.le_refl _⟩
  | (f, none) :: r, L, h, o => by
    rw [ftr_cons] at o ⊢
    obtain ⟨s, hs⟩ := goL_most h.2 (List.pairwise_cons.mp o).2
    by_cases hf : f < s
    · refine ⟨f, ?_⟩
      have := lt_mono (f := ftr r) (Int.le_of_lt hf)
      rw [sv_none, lt_cons, if_neg (by omega), ge_zero h.1]; omega
    · exact ⟨s, by rw [sv_none, lt_cons, if_neg hf]; omega⟩
  | (f, some q) :: r, L, h, o => by
    rw [ftr_cons] at o ⊢
    have o := List.pairwise_cons.mp o
    obtain ⟨s, hs⟩ := goL_most h.2.2.2 o.2
    have e := ge_erase (s := s) h.2.1
    have hq := h.1
    by_cases hf : f < s
    · by_cases hs2 : s ≤ q
      · obtain ⟨t, ht⟩ := above (L ++ f :: ftr r)
        refine ⟨t, ?_⟩
        have a1 : lt (ftr r) s = (ftr r).length := lt_all fun x hx => by have := o.1 x hx; omega
        have a2 : sv r ≤ (ftr r).length := sv_le
        rw [sv_some, lt_all fun x hx => ht x (List.mem_append_right _ hx), ge_zero fun x hx => ht x (List.mem_append_left _ hx), List.length_cons]
        omega
      · rw [if_neg hs2] at e
        exact ⟨s, by rw [sv_some, lt_cons, if_pos hf]; omega⟩
    · refine ⟨s, ?_⟩
      rw [sv_some, lt_cons, if_neg hf, e]
      split <;> omega
/-- the most and the fewest by their numbers -/
structure IsMost (f p : List Int) (k : Nat) : Prop where
  all : ∀ s, k ≤ lt f s + ge p s
  ex : ∃ s, lt f s + ge p s ≤ k
structure IsFew (f p : List Int) (k : Nat) : Prop where
  all : ∀ s, k ≤ lt f s ∨ k ≤ ge p s
  ex : ∃ s, lt f s ≤ k ∧ ge p s ≤ k
theorem IsMost.uniq {f p : List Int} {j k : Nat} (a : IsMost f p j) (b : IsMost f p k) : j = k := by
  obtain ⟨s, hs⟩ := a.ex
  obtain ⟨t, ht⟩ := b.ex
  have := a.all t
  have := b.all s
  omega
theorem IsFew.uniq {f p : List Int} {j k : Nat} (a : IsFew f p j) (b : IsFew f p k) : j = k := by
  obtain ⟨s, hs⟩ := a.ex
  obtain ⟨t, ht⟩ := b.ex
  have := a.all t
  have := b.all s
  omega
theorem IsMost.perm {f p g q : List Int} {k : Nat} (h : IsMost f p k) (a : f.Perm g) (b : p.Perm q) : IsMost g q k :=
  ⟨fun s => by rw [← lt_perm a, ← ge_perm b]; exact h.all s, by obtain ⟨s, hs⟩ := h.ex; exact ⟨s, by rw [← lt_perm a, ← ge_perm b]; exact hs⟩⟩
theorem IsFew.perm {f p g q : List Int} {k : Nat} (h : IsFew f p k) (a : f.Perm g) (b : p.Perm q) : IsFew g q k :=
  ⟨fun s => by rw [← lt_perm a, ← ge_perm b]; exact h.all s, by obtain ⟨s, hs⟩ := h.ex; exact ⟨s, by rw [← lt_perm a, ← ge_perm b]; exact hs⟩⟩
theorem goS_most {r : List (Int × Option Int)} {L : List Int} (h : GoS L r) : IsMost (ftr r) L (sv r) := ⟨fun _ => go_le h.go, goS_ex h⟩
theorem goL_few {r : List (Int × Option Int)} {L : List Int} (h : GoL L r) (o : (ftr r).Pairwise (· ≤ ·)) : IsFew (ftr r) L (sv r) := ⟨fun _ => goL_asc h o, go_ge h.go⟩
theorem goL_mostR {r : List (Int × Option Int)} {L : List Int} (h : GoL L r) (o : (ftr r).Pairwise (fun a b => b ≤ a)) : IsMost (ftr r) L (sv r) := ⟨fun _ => go_le h.go, goL_most h o⟩
theorem go_between {r : List (Int × Option Int)} {L : List Int} (h : Go L r) {j k : Nat} (hj : IsFew (ftr r) L j) (hk : IsMost (ftr r) L k) : j ≤ sv r ∧ sv r ≤ k := by
  obtain ⟨s, h1, h2⟩ := go_ge h
  obtain ⟨t, ht⟩ := hk.ex
  have := hj.all s
  have := go_le (s := t) h
  omega

/-! the law's own ways to reckon the most and the fewest -/
def cF : List Int → List Int → Nat
  | f :: F, p :: P => cF F P + if f ≤ p then 1 else 0
  | _, _ => 0
theorem cF_zip : ∀ (F P : List Int), (F.zip P).countP (fun x => decide (x.1 ≤ x.2)) = cF F P
  | [], _ => rfl
  | _ :: _, [] => rfl
  | f :: F, p :: P => by
    rw [List.zip_cons_cons, List.countP_cons, cF_zip F P, show cF (f :: F) (p :: P) = cF F P + (if f ≤ p then 1 else 0) from rfl]
    simp
theorem cF_zero : ∀ {F P : List Int}, (∀ f ∈ F, ∀ p ∈ P, p < f) → cF F P = 0
  | [], _, _ => by unfold cF; rfl
  | _ :: _, [], _ => by unfold cF; rfl
  | f :: F, p :: P, h => by
    have h1 := h f (List.mem_cons_self ..) p (List.mem_cons_self ..)
    have h2 : cF F P = 0 := cF_zero fun x hx y hy => h x (List.mem_cons_of_mem _ hx) y (List.mem_cons_of_mem _ hy)
    unfold cF
    rw [h2, if_neg (by omega)]
theorem cF_all {s : Int} : ∀ {F P : List Int}, F.Pairwise (· ≤ ·) → P.Pairwise (fun a b => b ≤ a) → cF F P ≤ lt F s ∨ cF F P ≤ ge P s
  | [], _, _, _ => .inl (by unfold cF; exact Nat.zero_le _)
  | _ :: _, [], _, _ => .inl (by unfold cF; exact Nat.zero_le _)
  | f :: F, p :: P, hf, hp => by
    have hf := List.pairwise_cons.mp hf
    have hp := List.pairwise_cons.mp hp
    have ih := cF_all (s := s) hf.2 hp.2
    unfold cF
    rw [lt_cons, ge_cons]
    by_cases hfp : f ≤ p
    · rw [if_pos hfp]
      by_cases h1 : f < s
      · rw [if_pos h1]
        by_cases h2 : s ≤ p
        · rw [if_pos h2]; omega
        · rw [if_neg h2]
          have : ge P s = 0 := ge_zero fun x hx => by have := hp.1 x hx; omega
          omega
      · rw [if_neg h1, if_pos (by omega)]
        have : lt F s = 0 := lt_zero fun x hx => by have := hf.1 x hx; omega
        omega
    · have : cF F P = 0 := cF_zero fun x hx y hy => by have := hf.1 x hx; have := hp.1 y hy; omega
      rw [if_neg hfp]; omega
theorem below (f : List Int) : ∃ s : Int, ∀ x ∈ f, s ≤ x := by
  induction f with
  | nil => exact ⟨0, by simp⟩
  | cons x f ih =>
    obtain ⟨s, h⟩ := ih
    refine ⟨min s x, fun y hy => ?_⟩
    rcases List.mem_cons.mp hy with rfl | hy
    · omega
    · have := h y hy; omega
theorem cF_ex : ∀ {F P : List Int}, F.Pairwise (· ≤ ·) → P.Pairwise (fun a b => b ≤ a) → ∃ s, lt F s ≤ cF F P ∧ ge P s ≤ cF F P
  | [], P, _, _ => by
    obtain ⟨s, hs⟩ := above P
    exact ⟨s, by rw [lt_nil]; exact Nat.zero_le _, by rw [ge_zero hs]; exact Nat.zero_le _⟩
  | f :: F, [], _, _ => by
    obtain ⟨s, hs⟩ := below (f :: F)
    exact ⟨s, by rw [lt_zero hs]; exact Nat.zero_le _, by rw [ge_nil]; exact Nat.zero_le _⟩
  | f :: F, p :: P, hf, hp => by
    have hf := List.pairwise_cons.mp hf
    have hp := List.pairwise_cons.mp hp
    by_cases hfp : f ≤ p
    · obtain ⟨s, h1, h2⟩ := cF_ex hf.2 hp.2
      refine ⟨s, ?_, ?_⟩
      · rw [lt_cons]; unfold cF; rw [if_pos hfp]; split <;> omega
      · rw [ge_cons]; unfold cF; rw [if_pos hfp]; split <;> omega
    · refine ⟨f, ?_, ?_⟩
      · rw [lt_zero fun x hx => ?_]
        · exact Nat.zero_le _
        · rcases List.mem_cons.mp hx with rfl | hx
          · exact Int.le_refl _
          · exact hf.1 x hx
      · rw [ge_zero fun x hx => ?_]
        · exact Nat.zero_le _
        · rcases List.mem_cons.mp hx with rfl | hx
          · omega
          · have := hp.1 x hx; omega
theorem few_cF {F P : List Int} (hf : F.Pairwise (· ≤ ·)) (hp : P.Pairwise (fun a b => b ≤ a)) : IsFew F P (cF F P) := ⟨fun _ => cF_all hf hp, cF_ex hf hp⟩
theorem GoL.perm : ∀ {r : List (Int × Option Int)} {L M : List Int}, L.Perm M → GoL L r → GoL M r
  | [], _, _, _, _ => trivial
  | (_, none) :: _, _, _, p, h => ⟨fun q hq => h.1 q (p.mem_iff.mpr hq), h.2.perm p⟩
  | (_, some _) :: _, _, _, p, h => ⟨h.1, p.mem_iff.mp h.2.1, fun x hx => h.2.2.1 x (p.mem_iff.mpr hx), h.2.2.2.perm (p.erase _)⟩
theorem GoS.perm : ∀ {r : List (Int × Option Int)} {L M : List Int}, L.Perm M → GoS L r → GoS M r
  | [], _, _, _, _ => trivial
  | (_, none) :: _, _, _, p, h => ⟨fun q hq => h.1 q (p.mem_iff.mpr hq), h.2.perm p⟩
  | (_, some _) :: _, _, _, p, h => ⟨h.1, p.mem_iff.mp h.2.1, fun x hx hf => h.2.2.1 x (p.mem_iff.mpr hx) hf, h.2.2.2.perm (p.erase _)⟩
/-- each foot takes the last of the pairs, if it fits -/
def cM : List Int → List Int → Nat
  | [], _ => 0
  | f :: F, L => match L.getLast? with
    | none => cM F L
    | some q => if f ≤ q then cM F L.dropLast + 1 else cM F L
theorem cM_run : ∀ (F L : List Int), L.Pairwise (· ≤ ·) → ∃ r, GoL L r ∧ ftr r = F ∧ sv r = cM F L
  | [], L, _ => ⟨[], trivial, rfl, rfl⟩
  | f :: F, L, h => by
    rcases List.eq_nil_or_concat L with rfl | ⟨M, q, rfl⟩
    · obtain ⟨r, h1, h2, h3⟩ := cM_run F [] h
      exact ⟨(f, none) :: r, ⟨by simp, h1⟩, by rw [ftr_cons, h2], by rw [sv_none, h3]; rfl⟩
    · rw [List.concat_eq_append] at h ⊢
      have hm := List.pairwise_append.mp h
      have top : ∀ x ∈ M ++ [q], x ≤ q := fun x hx => by
        rcases List.mem_append.mp hx with y | y
        · exact hm.2.2 x y q (List.mem_singleton.mpr rfl)
        · rw [List.mem_singleton.mp y]; exact Int.le_refl _
      by_cases hf : f ≤ q
      · obtain ⟨r, h1, h2, h3⟩ := cM_run F M hm.1
        refine ⟨(f, some q) :: r, ⟨hf, List.mem_append_right _ (List.mem_singleton.mpr rfl), top, h1.perm ?_⟩, by rw [ftr_cons, h2], ?_⟩
        · have e : (q :: M).Perm (M ++ [q]) := (List.perm_append_comm (l₁ := [q]) (l₂ := M))
          have := e.erase q
          rwa [List.erase_cons_head] at this
        · rw [sv_some, h3]
          conv => rhs; unfold cM
          simp [hf]
      · obtain ⟨r, h1, h2, h3⟩ := cM_run F (M ++ [q]) h
        refine ⟨(f, none) :: r, ⟨fun x hx => by have := top x hx; omega, h1⟩, by rw [ftr_cons, h2], ?_⟩
        rw [sv_none, h3]
        conv => rhs; unfold cM
        simp [hf]
theorem most_cM {F L : List Int} (hf : F.Pairwise (fun a b => b ≤ a)) (hl : L.Pairwise (· ≤ ·)) : IsMost F L (cM F L) := by
  obtain ⟨r, h1, h2, h3⟩ := cM_run F L hl
  have := goL_mostR h1 (by rw [h2]; exact hf)
  rwa [h2, h3] at this
theorem rev_sorted {l : List Int} (h : l.Pairwise (· ≤ ·)) : l.reverse.Pairwise (fun a b => b ≤ a) := List.pairwise_reverse.mpr h
theorem cM_snoc {x q : Int} {F M : List Int} : cM (x :: F) (M ++ [q]) = if x ≤ q then cM F M + 1 else cM F (M ++ [q]) := by
  conv => lhs; unfold cM
  simp

abbrev dk (c : List Int) (t : Int) : Sto := [.lst (c.map .int), .lst [.loc 0, .int t]]
/-- the deck, then T and no more -/
def DkE (n : Int) (S T : Sto) : Prop := ∃ c t, S = dk c t ++ T ∧ (∀ x ∈ c, (0 : Int) ≤ x) ∧ 0 ≤ t ∧ t ≤ n
/-- the deck, then T, then what is of no interest -/
def DkS (n : Int) (S T : Sto) : Prop := ∃ U, DkE n S (T ++ U)
theorem DkE.get {n : Int} {S T : Sto} {i : Nat} {x : O} (h : DkE n S T) (e : T[i]? = some x) : S[2 + i]? = some x := by
  obtain ⟨c, t, rfl, _⟩ := h
  rw [List.getElem?_append_right (by simp)]
  simpa using e
theorem DkE.put {n : Int} {S T : Sto} {i : Nat} {y : O} (h : DkE n S T) : DkE n (S.set (2 + i) y) (T.set i y) := by
  obtain ⟨c, t, rfl, h1⟩ := h
  refine ⟨c, t, ?_, h1⟩
  rw [List.set_append_right _ _ (by simp)]
  simp
theorem DkE.app {n : Int} {S T : Sto} {x : O} (h : DkE n S T) : DkE n (S ++ [x]) (T ++ [x]) := by
  obtain ⟨c, t, rfl, h1⟩ := h
  exact ⟨c, t, by simp, h1⟩
theorem DkE.len {n : Int} {S T : Sto} (h : DkE n S T) : S.length = 2 + T.length := by
  obtain ⟨c, t, rfl, _⟩ := h
  simp; omega
theorem DkE.mono {n k : Int} {S T : Sto} (h : DkE n S T) (z : n ≤ k) : DkE k S T := by
  obtain ⟨c, t, e, h1, h2, h3⟩ := h
  exact ⟨c, t, e, h1, h2, by omega⟩
theorem DkS.mono {n k : Int} {S T : Sto} (h : DkS n S T) (z : n ≤ k) : DkS k S T := by
  obtain ⟨U, h⟩ := h
  exact ⟨U, h.mono z⟩
theorem DkS.get {n : Int} {S T : Sto} {i : Nat} {x : O} (h : DkS n S T) (e : T[i]? = some x) : S[2 + i]? = some x := by
  obtain ⟨U, h⟩ := h
  exact h.get (by rw [List.getElem?_append_left (List.getElem?_eq_some_iff.mp e).1]; exact e)
theorem DkS.put {n : Int} {S T : Sto} {i : Nat} {y : O} (h : DkS n S T) (hi : i < T.length) : DkS n (S.set (2 + i) y) (T.set i y) := by
  obtain ⟨U, h⟩ := h
  refine ⟨U, ?_⟩
  have z := h.put (i := i) (y := y)
  rwa [List.set_append_left _ _ hi] at z
theorem DkS.put_end {n : Int} {S T : Sto} {x y : O} (h : DkS n S (T ++ [x])) : DkS n (S.set (2 + T.length) y) (T ++ [y]) := by
  have z := h.put (i := T.length) (y := y) (by simp)
  rwa [List.set_append_right _ _ (Nat.le_refl _), Nat.sub_self] at z
theorem DkS.get_end {n : Int} {S T : Sto} {x : O} (h : DkS n S (T ++ [x])) : S[2 + T.length]? = some x := h.get (by simp)
theorem DkS.drop {n : Int} {S T U : Sto} (h : DkS n S (T ++ U)) : DkS n S T := by
  obtain ⟨V, h⟩ := h
  exact ⟨U ++ V, by rw [← List.append_assoc]; exact h⟩
theorem DkS.new {n : Int} {S T : Sto} (h : DkS n S T) : ∃ U, S.length = 2 + (T ++ U).length ∧ ∀ x, DkS n (S ++ [x]) (T ++ U ++ [x]) := by
  obtain ⟨U, h⟩ := h
  exact ⟨U, h.len, fun x => ⟨[], by rw [List.append_nil]; exact h.app⟩⟩
theorem DkS.more {n : Int} {S T : Sto} {x : O} (h : DkS n S T) : DkS n (S ++ [x]) T := by
  obtain ⟨U, h⟩ := h
  exact ⟨U ++ [x], by rw [← List.append_assoc]; exact h.app⟩
theorem sp_drawE {lim n : Int} {S T : Sto} (h : DkE n S T) (hn : n ≤ 1000000) (h0 : 0 < lim) (h1 : lim ≤ 1000001) : WpE noX (den__law_draw [.loc 1, .int lim] S) fun d S' => ∃ r, d = .int r ∧ 0 ≤ r ∧ r < lim ∧ DkE (n + 1) S' T := by
  obtain ⟨c, t, rfl, hc, ht, htn⟩ := h
  unfold den__law_draw
  walk_at "ev"
  refine wp_ix_loc rfl rfl ?_
  walk_at "ev"
  refine set_ok rfl rfl ?_
  show WsE noXs _ _ _ _ _
  walk_at "ev"
  -- the cell that is read
  have main : ∀ (cell : Int) (ix : Int) (ρ : DEnv), ρ = [some (.loc 1), some (.int lim), some (.int cell), some (.int ix)] → (0 ≤ cell) → (cell ≥ 10 ^ 18 → 0 ≤ ix ∧ ix < c.length) → 
      WsE noXs ((dSeq
                        (dIfS (dCm fGe (dVar 2) (dOp fPow (dK (D.int 10)) (dK (D.int 18))))
                          (dSeq (dSub (dOp fDiv (dVar 2) (dVar 1)) (dOp fIx (dVar 0) (dK (D.int 0))) (dVar 3))
                            (dSeq (dRet (dOp fMod (dVar 2) (dVar 1))) dNext))
                          dNext)
                        (dSeq
                          (dRet
                            (dOp fMod
                              (dOp fMod
                                  (dOp fPow
                                    (dOp fAdd
                                      (dOp fAdd (dOp fMod (dVar 2) (dK (D.int 2147483587)))
                                        (dOp fMul (dK (D.int 7919)) (dOp fIx (dVar 0) (dK (D.int 1)))))
                                      (dK (D.int 1)))
                                    (dK (D.int 5)))
                                  (dK (D.int 2147483647)))
                              (dVar 1)))
                          dNext)) ρ (dk c (t + 1) ++ T)) (fun x S => ∃ r, D.non = D.int r ∧ 0 ≤ r ∧ r < lim ∧ DkE (n + 1) S T)
                  (fun d S' => ∃ r, d = D.int r ∧ 0 ≤ r ∧ r < lim ∧ DkE (n + 1) S' T) (fun x x_1 => False) fun x x_1 => False := by
    rintro cell ix ρ rfl hcell hix
    walk_at "ev"
    refine Eq.mpr ws_if ?_
    walk_at "ev"
    refine wp_pow (by decide) (by decide) (by decide) ?_
    walk_at "ev"
    refine ite_c (fun hb => ?_) fun hb => ?_
    · have hb' : cell ≥ 10 ^ 18 := by simpa using hb
      obtain ⟨i0, i1⟩ := hix hb'
      walk_at "ev"
      refine wp_div h0 (by omega) ?_
      walk_at "ev"
      refine wp_ix_loc rfl rfl ?_
      walk_at "ev"
      refine set_ok rfl (show ixN _ ix = some ix.toNat by unfold ixN; rw [if_pos i0, if_pos (by simpa using i1)]) ?_
      show WsE noXs _ _ _ _ _
      walk_at "ev"
      refine wp_mod h0 ?_
      refine ⟨_, rfl, Int.emod_nonneg _ (by omega), Int.emod_lt_of_pos _ h0, (c.set ix.toNat (cell / lim)), t + 1, ?_, fun x hx => ?_, by omega, by omega⟩
      · show O.lst ((c.map D.int).set ix.toNat (D.int (cell / lim))) :: _ = _
        rw [← List.map_set]; rfl
      · rcases List.mem_or_eq_of_mem_set hx with z | z
        · exact hc x z
        · subst z; exact Int.ediv_nonneg hcell (by omega)
    · walk_at "ev"
      refine wp_mod (by decide) ?_
      walk_at "ev"
      refine wp_ix_loc rfl rfl ?_
      refine wp_mulL (by decide) (by decide) ?_
      walk_at "ev"
      have e1 := Int.emod_nonneg cell (show (2147483587 : Int) ≠ 0 by decide)
      have e2 := Int.emod_lt_of_pos cell (show (0 : Int) < 2147483587 by decide)
      refine wp_pow (by decide) (by decide) (by omega) ?_
      walk_at "ev"
      refine wp_mod (by decide) ?_
      walk_at "ev"
      refine wp_mod h0 ?_
      exact ⟨_, rfl, Int.emod_nonneg _ (by omega), Int.emod_lt_of_pos _ h0, c, t + 1, rfl, hc, by omega, by omega⟩
  refine Eq.mpr ws_if ?_
  walk_at "ev"
  refine wp_ix_loc rfl rfl ?_
  walk_at "ev"
  refine wp_len_loc rfl ?_
  walk_at "ev"
  refine ite_c (fun hb => ?_) fun hb => ?_
  · have hl : 0 < c.length := by simpa using hb
    walk_at "ev"
    refine wp_ix_loc rfl rfl ?_
    walk_at "ev"
    refine wp_ix_loc rfl rfl ?_
    walk_at "ev"
    refine wp_len_loc rfl ?_
    have hm : (0 : Int) < ((c.map D.int).length : Nat) := by simpa using hl
    refine wp_mod hm ?_
    walk_at "ev"
    refine wp_ix_loc rfl rfl ?_
    have e1 := Int.emod_nonneg (t + 1) (show (((c.map D.int).length : Nat) : Int) ≠ 0 by omega)
    have e2 := Int.emod_lt_of_pos (t + 1) hm
    walk_at "ev"
    obtain ⟨d, a1, a2, a3⟩ := atI_at e1 e2
    obtain ⟨x, hx, rfl⟩ := List.mem_map.mp a2
    refine wp_ix_loc rfl a1 ?_
    refine toN_ok rfl ?_
    refine Eq.mpr ws_next ?_
    exact main x _ _ rfl (hc x hx) fun _ => ⟨e1, by simpa using e2⟩
  · refine Eq.mpr ws_next ?_
    exact main 0 (-1) _ rfl (by decide) fun h => absurd h (by decide)

theorem sp_draw {lim n : Int} {S T : Sto} (h : DkS n S T) (hn : n ≤ 1000000) (h0 : 0 < lim) (h1 : lim ≤ 1000001) : WpE noX (den__law_draw [.loc 1, .int lim] S) fun d S' => ∃ r, d = .int r ∧ 0 ≤ r ∧ r < lim ∧ DkS (n + 1) S' T := by
  obtain ⟨U, h⟩ := h
  refine Wp.imp (sp_drawE h hn h0 h1) ?_
  rintro d S' ⟨r, e, a, b, z⟩
  exact ⟨r, e, a, b, U, z⟩
theorem sp_deck (ns : List Int) : WpE noX (den__law_deck [.scr (ns.map .int)] []) fun d S => d = .loc 1 ∧ DkE 0 S [] := by
  unfold den__law_deck
  walk_at "ev"
  obtain ⟨a, b, e⟩ := cut_map (f := D.int) ns none (some 63)
  rw [e]
  refine lc_map D.int (fun _ => true) (fun x => .int (if x < 0 then -x else x)) _ (fun x _ => ?_) ?_
  · walk_at "ev"
    refine ⟨rfl, rfl, fun _ => ?_⟩
    walk_at "ev"
    exact ⟨rfl, rfl⟩
  · walk_at "ev"
    refine ⟨rfl, ((ns.drop a).take b).map fun x => if x < 0 then -x else x, 0, ?_, fun x hx => ?_, by omega, by omega⟩
    · show [O.lst _, O.lst _] = _
      rw [List.filter_eq_self.mpr (fun _ _ => rfl)]
      simp [dk, List.map_map, Function.comp_def]
    · obtain ⟨y, _, rfl⟩ := List.mem_map.mp hx
      show 0 ≤ (if y < 0 then -y else y)
      split <;> omega

abbrev hallD (f p : List Int) : D := .tup [.tup (f.map .int), .tup (p.map .int)]
structure HallOk (g m : Int) (f p : List Int) : Prop where
  f1 : 1 ≤ f.length
  fl : (f.length : Int) ≤ g
  pl : (p.length : Int) ≤ m
  fs : ∀ x ∈ f, 1 ≤ x ∧ x ≤ 1000000
  ps : ∀ x ∈ p, 1 ≤ x ∧ x ≤ 1000000

theorem way_pick {r : Int} (h0 : 0 ≤ r) (h1 : r < 3) : ∃ top, atI [D.int 4, D.int 25, D.int 1000000] r = some (.int top) ∧ 0 < top ∧ top ≤ 1000000 := by
  have hc : r = 0 ∨ r = 1 ∨ r = 2 := by omega
  rcases hc with rfl | rfl | rfl <;> exact ⟨_, rfl, by omega, by omega⟩
theorem e6 : (10 : Int) ^ Int.toNat 6 = 1000000 := rfl
theorem sp_sizes {many way n : Int} {S T : Sto} (h : DkS n S T) (hn : n ≤ 900000) (m0 : 0 ≤ many) (m1 : many ≤ 20) (w0 : 0 ≤ way) (w1 : way < 3) : WpE noX (den__law_sizes [.loc 1, .int many, .int way] S) fun d S' => ∃ zs : List Int, d = .tup (zs.map .int) ∧ (zs.length : Int) = many ∧ (∀ z ∈ zs, 1 ≤ z ∧ z ≤ 1000000) ∧ DkS (n + many) S' T := by
  obtain ⟨top, et, t0, t1⟩ := way_pick w0 w1
  obtain ⟨k, rfl⟩ := Int.eq_ofNat_of_zero_le m0
  unfold den__law_sizes
  walk_at "go"
  rw [Int.toNat_natCast]
  refine lc_inv (fun i acc S' => ∃ zs : List Int, acc = zs.map .int ∧ zs.length = i ∧ (∀ z ∈ zs, 1 ≤ z ∧ z ≤ 1000000) ∧ DkS (n + i) S' T) ⟨[], rfl, rfl, by simp, by simpa using h⟩ ?_ ?_
  · rintro i d acc S1 hd ⟨zs, rfl, hz, hr, hk⟩
    obtain ⟨hi, rfl⟩ := rng_at hd
    refine toN_ok rfl ?_
    walk_at "go"
    rw [e6]
    refine wp_ix_lst et ?_
    walk_at "go"
    refine Wp.imp (sp_draw hk (by omega) t0 (by omega)) ?_
    rintro _ S2 ⟨r, rfl, h0, h1, h2⟩
    walk_at "go"
    refine ⟨zs ++ [1 + r], by simp, by simp [hz], fun z hz' => ?_, h2.mono (by omega)⟩
    rcases List.mem_append.mp hz' with y | y
    · exact hr z y
    · rw [List.mem_singleton.mp y]; omega
  · rintro ys S1 ⟨zs, rfl, hz, hr, hk⟩
    rw [rng_len] at hz hk
    walk_at "go"
    exact ⟨zs, rfl, by omega, hr, hk⟩
theorem sp_hall {most n : Int} {S T : Sto} (h : DkS n S T) (hn : n ≤ 800000) (m1 : 1 ≤ most) (m2 : most ≤ 20) : WpE noX (den__law_hall [.loc 1, .int most] S) fun d S' => ∃ f p, d = hallD f p ∧ HallOk most most f p ∧ DkS (n + 50) S' T := by
  unfold den__law_hall
  walk_at "go"
  refine Wp.imp (sp_draw h (by omega) (by omega) (by omega)) ?_
  rintro _ S1 ⟨w, rfl, w0, w1, h1⟩
  walk_at "go"
  refine Wp.imp (sp_draw h1 (by omega) (by omega) (by omega)) ?_
  rintro _ S2 ⟨a, rfl, a0, a1, h2⟩
  walk_at "go"
  refine Wp.imp (sp_sizes h2 (by omega) (by omega) (by omega) w0 w1) ?_
  rintro _ S3 ⟨f, rfl, fl, fb, h3⟩
  walk_at "go"
  refine Wp.imp (sp_draw h3 (by omega) (by omega) (by omega)) ?_
  rintro _ S4 ⟨b, rfl, b0, b1, h4⟩
  walk_at "go"
  refine Wp.imp (sp_sizes h4 (by omega) (by omega) (by omega) w0 w1) ?_
  rintro _ S5 ⟨p, rfl, pl, pb, h5⟩
  walk_at "go"
  exact ⟨f, p, rfl, ⟨by omega, by omega, by omega, fb, pb⟩, h5.mono (by omega)⟩

theorem lt_defI {f : List Int} {s : Int} : (f.filter fun x => decide (x < s)).length = lt f s := List.countP_eq_length_filter.symm
theorem ge_defI {f : List Int} {s : Int} : (f.filter fun x => decide (s ≤ x)).length = ge f s := List.countP_eq_length_filter.symm
/-- the law's sums: of the row's sizes and those one greater -/
def endsZ (f p l : List Int) : List Int := (f.length : Int) :: (l.map fun x => [(lt f x : Int) + ge p x, (lt f (x + 1) : Int) + ge p (x + 1)]).flatten
theorem mem_endsZ {f p l : List Int} {m : Int} (h : m ∈ endsZ f p l) : m = f.length ∨ ∃ s : Int, m = (lt f s : Int) + ge p s := by
  unfold endsZ at h
  rcases List.mem_cons.mp h with e | h
  · exact .inl e
  · obtain ⟨z, hz, hm⟩ := List.mem_flatten.mp h
    obtain ⟨x, _, rfl⟩ := List.mem_map.mp hz
    simp only [List.mem_cons, List.not_mem_nil, or_false] at hm
    rcases hm with rfl | rfl
    · exact .inr ⟨x, rfl⟩
    · exact .inr ⟨x + 1, rfl⟩
theorem in_endsZ {f p l : List Int} {x : Int} (h : x ∈ l) : (lt f x : Int) + ge p x ∈ endsZ f p l ∧ (lt f (x + 1) : Int) + ge p (x + 1) ∈ endsZ f p l := by
  unfold endsZ
  constructor
  · exact List.mem_cons_of_mem _ (List.mem_flatten.mpr ⟨_, List.mem_map.mpr ⟨x, h, rfl⟩, List.mem_cons_self ..⟩)
  · exact List.mem_cons_of_mem _ (List.mem_flatten.mpr ⟨_, List.mem_map.mpr ⟨x, h, rfl⟩, List.mem_cons_of_mem _ (List.mem_cons_self ..)⟩)
/-- the greatest number of a row below s, or none -/
theorem max_lt {s : Int} : ∀ l : List Int, (∀ x ∈ l, s ≤ x) ∨ ∃ t ∈ l, t < s ∧ ∀ x ∈ l, x < s → x ≤ t
  | [] => .inl fun x hx => (by cases hx)
  | y :: l => by
    rcases max_lt (s := s) l with h | ⟨t, ht, h1, h2⟩
    · by_cases hy : y < s
      · refine .inr ⟨y, List.mem_cons_self .., hy, fun x hx hs => ?_⟩
        rcases List.mem_cons.mp hx with e | hx
        · omega
        · have := h x hx; omega
      · refine .inl fun x hx => ?_
        rcases List.mem_cons.mp hx with e | hx
        · omega
        · exact h x hx
    · by_cases hy : y < s ∧ t < y
      · refine .inr ⟨y, List.mem_cons_self .., hy.1, fun x hx hs => ?_⟩
        rcases List.mem_cons.mp hx with e | hx
        · omega
        · have := h2 x hx hs; omega
      · refine .inr ⟨t, List.mem_cons_of_mem _ ht, h1, fun x hx hs => ?_⟩
        rcases List.mem_cons.mp hx with e | hx
        · omega
        · exact h2 x hx hs
theorem lt_sameI {f : List Int} {s t : Int} (h : ∀ x ∈ f, x < s ↔ x < t) : lt f s = lt f t := List.countP_congr fun x hx => by simpa using h x hx
theorem ge_sameI {f : List Int} {s t : Int} (h : ∀ x ∈ f, s ≤ x ↔ t ≤ x) : ge f s = ge f t := List.countP_congr fun x hx => by simpa using h x hx
theorem least_ex : ∀ l : List Int, l ≠ [] → ∃ y ∈ l, ∀ z ∈ l, y ≤ z := by
  intro l
  induction l with
  | nil => intro z; exact absurd rfl z
  | cons a l ih =>
    intro _
    by_cases hl : l = []
    · subst hl; exact ⟨a, List.mem_cons_self .., fun z hz => by rw [List.mem_singleton.mp hz]; exact Int.le_refl _⟩
    · obtain ⟨y, hy, hh⟩ := ih hl
      by_cases hya : y ≤ a
      · refine ⟨y, List.mem_cons_of_mem _ hy, fun z hz => ?_⟩
        rcases List.mem_cons.mp hz with e | hz
        · omega
        · exact hh z hz
      · refine ⟨a, List.mem_cons_self .., fun z hz => ?_⟩
        rcases List.mem_cons.mp hz with e | hz
        · omega
        · have := hh z hz; omega
/-- every size's sum is among the law's, or it is that of none below -/
theorem ends_all {f p : List Int} (s : Int) : ∃ m ∈ endsZ f p (f ++ p), m ≤ (lt f s : Int) + ge p s := by
  rcases max_lt (s := s) (f ++ p) with h | ⟨t, ht, h1, h2⟩
  · by_cases hz : f ++ p = []
    · refine ⟨f.length, List.mem_cons_self .., ?_⟩
      rw [(List.append_eq_nil_iff.mp hz).1]
      simp
      omega
    · obtain ⟨y, hy, hh⟩ := least_ex (f ++ p) hz
      refine ⟨_, (in_endsZ (f := f) (p := p) hy).1, ?_⟩
      have a1 : lt f y = 0 := lt_zero fun x hx => hh x (List.mem_append_left _ hx)
      have a2 : ge p y ≤ p.length := ge_len
      have a3 : ge p s = p.length := ge_all fun x hx => h x (List.mem_append_right _ hx)
      omega
  · refine ⟨_, (in_endsZ (f := f) (p := p) ht).2, ?_⟩
    rw [lt_sameI (s := s) (t := t + 1) fun x hx => ⟨fun q => by have := h2 x (List.mem_append_left _ hx) q; omega, fun q => by omega⟩,
      ge_sameI (f := p) (s := s) (t := t + 1) fun x hx => ⟨fun q => by omega, fun q => by
        by_cases hs : x < s
        · have := h2 x (List.mem_append_right _ hx) hs; omega
        · omega⟩]
    exact Int.le_refl _
theorem ends_most {f p : List Int} {k : Nat} (hk : IsMost f p k) {m : Int} (h : m ∈ endsZ f p (f ++ p)) (hl : ∀ z ∈ endsZ f p (f ++ p), m ≤ z) : m = k := by
  have h1 : (k : Int) ≤ m := by
    rcases mem_endsZ h with e | ⟨s, e⟩
    · obtain ⟨s, hs⟩ := above (f ++ p)
      have := hk.all s
      rw [ge_zero fun x hx => hs x (List.mem_append_right _ hx)] at this
      have := lt_len (f := f) (s := s)
      omega
    · have := hk.all s; omega
  obtain ⟨s, hs⟩ := hk.ex
  obtain ⟨z, hz, hzs⟩ := ends_all (f := f) (p := p) s
  have := hl z hz
  omega
theorem endsZ_len (f p l : List Int) : (endsZ f p l).length = 1 + 2 * l.length := by
  unfold endsZ
  induction l with
  | nil => rfl
  | cons x l ih =>
    simp only [List.map_cons, List.flatten_cons, List.length_cons, List.length_append, List.length_nil] at *
    omega
theorem endsZ_snoc (f p l : List Int) (x : Int) : endsZ f p (l ++ [x]) = endsZ f p l ++ [(lt f x : Int) + ge p x, (lt f (x + 1) : Int) + ge p (x + 1)] := by
  unfold endsZ
  simp
theorem eq_ends {f p : List Int} {k m : Nat} (hk : IsFew f p k) (hm : IsMost f p m) (fl : f.length ≤ 1000) (pl : p.length ≤ 1000) (S : Sto) : ∃ x, den__law_ends [hallD f p] S = .ok (.lst [.int k, .int m]) (S ++ [x]) := by
  have hcf : cF (sortI f) (sortI p).reverse = k := ((few_cF (sortI_sorted f) (rev_sorted (sortI_sorted p))).perm (sortI_perm f) ((List.reverse_perm _).trans (sortI_perm p))).uniq hk
  have z : WpE noX (den__law_ends [hallD f p] S) fun d S' => d = .lst [.int k, .int m] ∧ ∃ x, S' = S ++ [x] := by
    unfold den__law_ends
    walk_at "go"
    rw [zip_ints]
    refine lc_map DL.prD (fun x => decide (x.1 ≤ x.2)) (fun _ => .int 1) _ (fun x hx => ?_) ?_
    · walk_at "go"
      refine ⟨rfl, rfl, fun _ => ?_⟩
      walk_at "go"
      exact ⟨rfl, rfl⟩
    walk_at "go"
    rw [List.length_map, ← List.countP_eq_length_filter, cF_zip, hcf]
    refine wp_addT (line_le (by rw [List.length_map, List.length_map]; omega)) ?_
    rw [← List.map_append]
    walk_at "go"
    refine for_inv (fun i ρ S1 => ∃ a7 a8 a9 a10, ρ = [some (hallD f p), some (.tup (f.map .int)), some (.tup (p.map .int)), some (.lst ((sortI f).map .int)), some (.lst ((sortI p).reverse.map .int)), some (.int k), some (.loc S.length), a7, a8, a9, a10] ∧ S1 = S ++ [.lst ((endsZ f p ((f ++ p).take i)).map .int)]) ⟨_, _, _, _, rfl, by rw [List.length_map]; rfl⟩ ?_ ?_
    · rintro i d ρ S1 hd ⟨a7, a8, a9, a10, rfl, rfl⟩
      obtain ⟨w, rfl, hi, -, htk, hwm, -⟩ := mapE_getD hd
      rw [htk]
      have hl : ((f ++ p).take i).length ≤ 2000 := by rw [List.length_take, List.length_append]; omega
      generalize (f ++ p).take i = P at hl
      walk_at "go"
      have hz : (endsZ f p P).length ≤ 4001 := by rw [endsZ_len]; omega
      rw [endsZ_snoc]
      generalize endsZ f p P = Z at hz
      have g3 : (S ++ [O.lst (List.map D.int Z)])[S.length]? = some (.lst (Z.map .int)) := at_end
      refine ws_fgC ?_
      refine toN_ok rfl ?_
      walk_at "go"
      refine lc_map D.int (fun x => decide (x < w)) (fun _ => .int 1) _ (fun x hx => ?_) ?_
      · walk_at "go"
        refine ⟨rfl, rfl, fun _ => ?_⟩
        walk_at "go"
        exact ⟨rfl, rfl⟩
      walk_at "go"
      refine lc_map D.int (fun x => decide (w ≤ x)) (fun _ => .int 1) _ (fun x hx => ?_) ?_
      · walk_at "go"
        refine ⟨rfl, rfl, fun _ => ?_⟩
        walk_at "go"
        exact ⟨rfl, rfl⟩
      walk_at "go"
      rw [List.length_map, List.length_map, lt_defI, ge_defI]
      refine wp_append at_end (line_le (by simp; omega)) ?_
      rw [set_end]
      walk_at "go"
      rw [show List.map D.int Z ++ [D.int ((lt f w : Int) + ge p w)] = (Z ++ [(lt f w : Int) + ge p w]).map D.int by simp]
      have g4 : (S ++ [O.lst ((Z ++ [(lt f w : Int) + ge p w]).map D.int)])[S.length]? = some (.lst ((Z ++ [(lt f w : Int) + ge p w]).map .int)) := at_end
      refine ws_fgC ?_
      refine toN_ok rfl ?_
      walk_at "go"
      refine lc_map D.int (fun x => decide (x < (w + 1))) (fun _ => .int 1) _ (fun x hx => ?_) ?_
      · walk_at "go"
        refine ⟨rfl, rfl, fun _ => ?_⟩
        walk_at "go"
        exact ⟨rfl, rfl⟩
      walk_at "go"
      refine lc_map D.int (fun x => decide ((w + 1) ≤ x)) (fun _ => .int 1) _ (fun x hx => ?_) ?_
      · walk_at "go"
        refine ⟨rfl, rfl, fun _ => ?_⟩
        walk_at "go"
        exact ⟨rfl, rfl⟩
      walk_at "go"
      rw [List.length_map, List.length_map, lt_defI, ge_defI]
      refine wp_append at_end (line_le (by simp; omega)) ?_
      rw [set_end]
      walk_at "go"
      refine ws_fgN ?_
      walk_at "go"
      refine ⟨_, _, _, _, rfl, ?_⟩
      simp
    · rintro ρ S1 ⟨a7, a8, a9, a10, rfl, rfl⟩
      walk_at "go"
      rw [List.length_map, List.take_of_length_le (Nat.le_refl _)]
      refine wp_minZ_loc at_end (by unfold endsZ; exact List.cons_ne_nil _ _) fun z hz hl => ?_
      rw [ends_most hm hz hl]
      walk_at "go"
      exact ⟨rfl, _, rfl⟩
  obtain ⟨d, S', e, rfl, x, rfl⟩ := Wp.ex z
  exact ⟨x, e⟩

theorem sm_hall {g m : Int} {f p : List Int} (h : HallOk g m f p) (hg : g ≤ 20) (hm : m ≤ 20) : Sm (hallD f p) 5000 ∧ (hallD f p).py.depth ≤ 18 := by
  obtain ⟨s1, e1⟩ := sml_ints (ns := f) fun n hn => by have := h.fs n hn; omega
  obtain ⟨s2, e2⟩ := sml_ints (ns := p) fun n hn => by have := h.ps n hn; omega
  have hf := h.fl
  have hp := h.pl
  have d1 : (D.py (.tup (f.map .int))).depth ≤ 17 := by simp only [D.py, PyData.depth]; rw [e1]; decide
  have d2 : (D.py (.tup (p.map .int))).depth ≤ 17 := by simp only [D.py, PyData.depth]; rw [e2]; decide
  refine ⟨(sm_tup (sml_cons (sm_tup s1) (by omega) (sml_cons (sm_tup s2) (by omega) sml_nil))).mono (by omega), ?_⟩
  simp only [D.py, D.pyL, PyData.depth, PyData.depthAll] at d1 d2 ⊢
  omega
theorem sm_pr {a b : Int} (ha : a.natAbs < 10 ^ 12) (hb : b.natAbs < 10 ^ 12) : Sm (prD (a, b)) 90 ∧ (prD (a, b)).py.depth ≤ 1 := by
  obtain ⟨s1, e1⟩ := sml_ints (ns := [a, b]) fun n hn => by
    simp only [List.mem_cons, List.not_mem_nil, or_false] at hn
    rcases hn with rfl | rfl <;> assumption
  refine ⟨(sm_tup s1).mono (by simp), ?_⟩
  simp only [D.py, PyData.depth]
  have e2 : PyData.depthAll (D.pyL [.int a, .int b]) = 0 := e1
  rw [e2]; decide
theorem sml_prs : ∀ {r : List (Int × Int)}, (∀ x ∈ r, x.1.natAbs < 10 ^ 12 ∧ x.2.natAbs < 10 ^ 12) → SmL (r.map prD) (92 * r.length) ∧ PyData.depthAll (D.pyL (r.map prD)) ≤ 1
  | [], _ => ⟨sml_nil, Nat.zero_le _⟩
  | x :: r, h => by
    obtain ⟨s1, e1⟩ := sml_prs (r := r) fun y hy => h y (List.mem_cons_of_mem _ hy)
    obtain ⟨s2, e2⟩ := sm_pr (h x (List.mem_cons_self ..)).1 (h x (List.mem_cons_self ..)).2
    refine ⟨(sml_cons s2 (by omega) s1).mono (by simp; omega), ?_⟩
    show max _ (PyData.depthAll (D.pyL (r.map prD))) ≤ 1
    exact Nat.max_le.mpr ⟨e2, e1⟩
theorem sm_ints {ns : List Int} (h : ∀ x ∈ ns, x.natAbs < 10 ^ 12) : Sm (.tup (ns.map .int)) (42 * ns.length + 2) ∧ (D.py (.tup (ns.map .int))).depth ≤ 1 := by
  obtain ⟨s1, e1⟩ := sml_ints h
  refine ⟨sm_tup s1, ?_⟩
  simp only [D.py, PyData.depth]; rw [e1]; decide
/-- a list of some data -/
theorem sml_all : ∀ {ds : List D} {n : Nat}, (∀ d ∈ ds, Sm d n ∧ d.py.depth ≤ 18) → SmL ds ((n + 2) * ds.length)
  | [], _, _ => sml_nil
  | d :: ds, n, h => by
    have a := h d (List.mem_cons_self ..)
    have b := sml_all (ds := ds) (n := n) fun x hx => h x (List.mem_cons_of_mem _ hx)
    exact (sml_cons a.1 (by omega) b).mono (by simp only [List.length_cons, Nat.mul_succ]; omega)
theorem sp_pickA {x : Int} {S : Sto} {a b c : Int} {Q : D → Sto → Prop} (h0 : 0 ≤ x) (h1 : x < 3) (q : ∀ g, g = a ∨ g = b ∨ g = c → Q (.int g) S) : WpE noX (fIx (.lst [.int a, .int b, .int c]) (.int x) S) Q := by
  refine wp_pick (fun d => ∃ v, d = .int v ∧ (v = a ∨ v = b ∨ v = c)) h0 (by exact h1) (by
    intro d hd
    simp only [List.mem_cons, List.not_mem_nil, or_false] at hd
    rcases hd with rfl | rfl | rfl
    · exact ⟨_, rfl, .inl rfl⟩
    · exact ⟨_, rfl, .inr (.inl rfl)⟩
    · exact ⟨_, rfl, .inr (.inr rfl)⟩) ?_
  rintro _ ⟨v, rfl, h1⟩
  exact q v h1

theorem eqvAll_map {α : Type} [DecidableEq α] (enc : α → D) (h : ∀ a b : α, PyData.eqv (enc a).py (enc b).py = decide (a = b)) : ∀ l k : List α, PyData.eqvAll (D.pyL (l.map enc)) (D.pyL (k.map enc)) = decide (l = k)
  | [], [] => by simp [D.pyL, PyData.eqvAll]
  | [], b :: k => by simp [D.pyL, PyData.eqvAll]
  | a :: l, [] => by simp [D.pyL, PyData.eqvAll]
  | a :: l, b :: k => by
    show (PyData.eqv (enc a).py (enc b).py && PyData.eqvAll (D.pyL (l.map enc)) (D.pyL (k.map enc))) = _
    rw [h, eqvAll_map enc h l k]
    by_cases e : a = b <;> by_cases e2 : l = k <;> simp [e, e2]
theorem eqv_tupM {α : Type} [DecidableEq α] (enc : α → D) (h : ∀ a b : α, PyData.eqv (enc a).py (enc b).py = decide (a = b)) (l k : List α) : PyData.eqv (D.py (.tup (l.map enc))) (D.py (.tup (k.map enc))) = decide (l = k) := eqvAll_map enc h l k
theorem eqv_lstM {α : Type} [DecidableEq α] (enc : α → D) (h : ∀ a b : α, PyData.eqv (enc a).py (enc b).py = decide (a = b)) (l k : List α) : PyData.eqv (D.py (.lst (l.map enc))) (D.py (.lst (k.map enc))) = decide (l = k) := eqvAll_map enc h l k
theorem eqv_int (a b : Int) : PyData.eqv (D.int a).py (D.int b).py = decide (a = b) := by
  simp only [D.py, PyData.eqv]
  rw [Bool.eq_iff_iff]; simp

theorem eq_within {x a b : Int} {S : Sto} : den_is_within [.int x, .int a, .int b] S = .ok (.bl (decide (a ≤ x) && decide (x ≤ b))) S := by
  refine Wp.eqn ?_
  unfold den_is_within
  walk_at "go"
  refine ite_c (fun h => ?_) fun h => ?_
  · walk_at "go"
    rw [h]
    exact ⟨rfl, rfl⟩
  · rw [Bool.not_eq_true] at h
    rw [h]
    exact ⟨rfl, rfl⟩
/-- edits of a party -/
inductive Ed where
  | come (x : Int) | leave (i : Nat) | put (x : Int) | take (i : Nat)
def encE : Ed → D
  | .come x => .tup [.str "come", .int x]
  | .leave i => .tup [.str "leave", .int (i : Int)]
  | .put x => .tup [.str "put", .int x]
  | .take i => .tup [.str "take", .int (i : Int)]
def aftF : Ed → List Int → List Int
  | .come x, f => f ++ [x]
  | .leave i, f => f.eraseIdx i
  | _, f => f
def aftP : Ed → List Int → List Int
  | .put x, p => p ++ [x]
  | .take i, p => p.eraseIdx i
  | _, p => p
def EdOk : Ed → List Int → List Int → Prop
  | .come x, f, _ => (1 ≤ x ∧ x ≤ 1000000) ∧ f.length < 20
  | .leave i, f, _ => i < f.length ∧ 1 < f.length
  | .put x, _, p => (1 ≤ x ∧ x ≤ 1000000) ∧ p.length < 20
  | .take i, _, p => i < p.length
theorem HallOk.aft {f p : List Int} {e : Ed} (h : HallOk 20 20 f p) (he : EdOk e f p) : HallOk 20 20 (aftF e f) (aftP e p) := by
  obtain ⟨f1, fl, pl, fs, ps⟩ := h
  cases e with
  | come x =>
    refine ⟨by unfold aftF; simp, by unfold aftF; have := he.2; simp; omega, pl, fun y hy => ?_, ps⟩
    rcases List.mem_append.mp hy with z | z
    · exact fs y z
    · rw [List.mem_singleton.mp z]; exact he.1
  | leave i =>
    obtain ⟨a, b⟩ := he
    have hl : (f.eraseIdx i).length = f.length - 1 := List.length_eraseIdx_of_lt a
    exact ⟨by show 1 ≤ (f.eraseIdx i).length; omega, by show ((f.eraseIdx i).length : Int) ≤ 20; omega, pl, fun y hy => fs y ((List.eraseIdx_sublist ..).subset hy), ps⟩
  | put x =>
    refine ⟨f1, fl, by unfold aftP; have := he.2; simp; omega, fs, fun y hy => ?_⟩
    rcases List.mem_append.mp hy with z | z
    · exact ps y z
    · rw [List.mem_singleton.mp z]; exact he.1
  | take i =>
    have a : i < p.length := he
    have hl : (p.eraseIdx i).length = p.length - 1 := List.length_eraseIdx_of_lt a
    exact ⟨f1, fl, by show ((p.eraseIdx i).length : Int) ≤ 20; omega, fs, fun y hy => ps y ((List.eraseIdx_sublist ..).subset hy)⟩
theorem cut_a {f : List Int} {i : Nat} {S : Sto} : fCut (.tup (f.map .int)) none (some (i : Int)) S = .ok (.tup ((f.take i).map .int)) S := by
  have := fCut_take (xs := f) (r := (i : Int)) (S := S) (by omega)
  rwa [Int.toNat_natCast] at this
theorem cut_b {f : List Int} {i : Nat} {S : Sto} : fCut (.tup (f.map .int)) (some ((i : Int) + 1)) none S = .ok (.tup ((f.drop (i + 1)).map .int)) S := by
  have := fCut_drop (xs := f) (r := (i : Int) + 1) (S := S) (by omega)
  rwa [show ((i : Int) + 1).toNat = i + 1 by omega] at this
theorem cut_ab {f : List Int} {i : Nat} : (f.take i).map D.int ++ (f.drop (i + 1)).map D.int = (f.eraseIdx i).map D.int := by rw [← List.map_append, ← List.eraseIdx_eq_take_drop_succ]
theorem cut_l {f : List Int} {i : Nat} (h : f.length ≤ 1000) : ((f.take i).map D.int).length + ((f.drop (i + 1)).map D.int).length ≤ sizeLine := line_le (by rw [List.length_map, List.length_map, List.length_take, List.length_drop]; omega)
theorem eq_after {f p : List Int} {e : Ed} (hf : f.length ≤ 20) (hp : p.length ≤ 20) (S : Sto) : den__law_after [hallD f p, encE e] S = .ok (hallD (aftF e f) (aftP e p)) S := by
  refine Wp.eqn ?_
  unfold den__law_after
  cases e with
  | come x =>
    unfold encE
    walk_at "go"
    refine wp_addT (line_le (by simp; omega)) ?_
    walk_at "go"
    refine ⟨?_, rfl⟩
    show _ = hallD (f ++ [x]) p
    simp
  | leave i =>
    unfold encE
    walk_at "go"
    rw [Int.toNat_natCast, show ((i : Int) + 1).toNat = i + 1 by omega]
    refine wp_addT (cut_l (by omega)) ?_
    rw [cut_ab]
    walk_at "go"
    exact ⟨rfl, rfl⟩
  | put x =>
    unfold encE
    walk_at "go"
    refine wp_addT (line_le (by simp; omega)) ?_
    walk_at "go"
    refine ⟨?_, rfl⟩
    show _ = hallD f (p ++ [x])
    simp
  | take i =>
    unfold encE
    walk_at "go"
    rw [Int.toNat_natCast, show ((i : Int) + 1).toNat = i + 1 by omega]
    refine wp_addT (cut_l (by omega)) ?_
    rw [cut_ab]
    walk_at "go"
    exact ⟨rfl, rfl⟩
abbrev edR (f p : List Int) (n : Int) (T : Sto) : D → Sto → Prop := fun d S' => ∃ e, d = encE e ∧ EdOk e f p ∧ DkS n S' T
abbrev edE (f p : List Int) (w x : Int) : DEnv := [some (.loc 1), some (hallD f p), some (.tup (f.map .int)), some (.tup (p.map .int)), some (.int w), some (.int x)]
theorem sp_edit {n : Int} {S T : Sto} {f p : List Int} (h : DkS n S T) (hn : n ≤ 800000) (hh : HallOk 20 20 f p) : WpE noX (den__law_edit [.loc 1, hallD f p] S) fun d S' => ∃ e, d = encE e ∧ EdOk e f p ∧ DkS (n + 3 + 1) S' T := by
  obtain ⟨f1, fl, pl, fs, ps⟩ := hh
  have lf : (List.map D.int f).length = f.length := List.length_map ..
  have lp : (List.map D.int p).length = p.length := List.length_map ..
  unfold den__law_edit
  walk_at "go"
  refine Wp.imp (sp_draw h (by omega) (by omega) (by omega)) ?_
  rintro _ S1 ⟨w, rfl, w0, w1, h1⟩
  walk_at "go"
  rw [e6]
  refine Wp.imp (sp_draw h1 (by omega) (by omega) (by omega)) ?_
  rintro _ S2 ⟨v, rfl, v0, v1, h2⟩
  obtain ⟨top, et, t0, t1⟩ := way_pick v0 v1
  walk_at "go"
  refine wp_ix_lst et ?_
  walk_at "go"
  refine Wp.imp (sp_draw h2 (by omega) (by omega) (by omega)) ?_
  rintro _ S3 ⟨x, rfl, x0, x1, h3⟩
  walk_at "go"
  have h3 : DkS (n + 3) S3 T := h3.mono (by omega)
  refine ite_c (fun hw => ?_) fun hw => ?_
  · have hw : w = 0 := by simpa using hw
    subst hw
    walk_at "go"
    rw [lf]
    refine ite_c (fun hl => ?_) fun hl => ?_
    · have hl : 1 < f.length := by
        have : (1 : Int) < f.length := by simpa using hl
        omega
      walk_at "go"
      rw [lf]
      refine Wp.imp (sp_draw h3 (by omega) (by omega) (by omega)) ?_
      rintro _ S1 ⟨r, rfl, r0, r1, h1⟩
      walk_at "go"
      obtain ⟨k, rfl⟩ := Int.eq_ofNat_of_zero_le r0
      exact ⟨.leave k, rfl, ⟨by omega, hl⟩, h1.mono (by omega)⟩
    · have hl : ¬ (1 : Int) < f.length := by simpa using hl
      walk_at "go"
      exact ⟨.come (1 + x), rfl, ⟨⟨by omega, by omega⟩, by omega⟩, h3.mono (by omega)⟩
  · have hw : w ≠ 0 := by simpa using hw
    refine ite_f (by simp) ?_
    walk_at "go"
    rw [lf]
    refine ite_c (fun hl => ?_) fun hl => ?_
    · have hl : f.length = 20 := by
        have : (f.length : Int) = 20 := by simpa using hl
        omega
      walk_at "go"
      refine ite_c (fun hw3 => ?_) fun hw3 => ?_
      · have hl : 1 < f.length := by omega
        walk_at "go"
        rw [lf]
        refine Wp.imp (sp_draw h3 (by omega) (by omega) (by omega)) ?_
        rintro _ S1 ⟨r, rfl, r0, r1, h1⟩
        walk_at "go"
        obtain ⟨k, rfl⟩ := Int.eq_ofNat_of_zero_le r0
        exact ⟨.leave k, rfl, ⟨by omega, hl⟩, h1.mono (by omega)⟩
      · have hw4 : ¬ w < 3 := by simpa using hw3
        have ne : fNe (.tup (p.map .int)) (.tup []) S3 = .ok (!decide (p = [])) S3 := by
          have e := fNe_sm (S := S3) (sm_ints (ns := p) (fun x hx => by have := ps x hx; omega)).1 (sm_ints (ns := []) (fun x hx => by cases hx)).1 rfl
          rw [eqv_tupM D.int eqv_int] at e
          exact e
        walk_at "go"
        refine ite_c (fun hw => ?_) fun hw => ?_
        · walk_at "go"
          refine wp_val_ok ne ?_
          refine ite_c (fun hp => ?_) fun hp => ?_
          · have hp : 0 < p.length := List.length_pos_iff.mpr (by simpa using hp)
            walk_at "go"
            rw [lp]
            refine Wp.imp (sp_draw h3 (by omega) (by omega) (by omega)) ?_
            rintro _ S1 ⟨r, rfl, r0, r1, h1⟩
            walk_at "go"
            obtain ⟨k, rfl⟩ := Int.eq_ofNat_of_zero_le r0
            exact ⟨.take k, rfl, (by show k < p.length; omega), h1⟩
          · have hp : p.length = 0 := by rw [List.length_eq_zero_iff]; simpa using hp
            walk_at "go"
            exact ⟨.put (1 + x), rfl, ⟨⟨by omega, by omega⟩, by omega⟩, h3.mono (by omega)⟩
        · refine ite_f (by simp) ?_
          walk_at "go"
          rw [lp]
          refine ite_c (fun hl => ?_) fun hl => ?_
          · have hl : p.length = 20 := by
              have : (p.length : Int) = 20 := by simpa using hl
              omega
            walk_at "go"
            rw [lp]
            refine Wp.imp (sp_draw h3 (by omega) (by omega) (by omega)) ?_
            rintro _ S1 ⟨r, rfl, r0, r1, h1⟩
            walk_at "go"
            obtain ⟨k, rfl⟩ := Int.eq_ofNat_of_zero_le r0
            exact ⟨.take k, rfl, (by show k < p.length; omega), h1⟩
          · have hl : p.length ≠ 20 := fun e => hl (by rw [e]; decide)
            walk_at "go"
            exact ⟨.put (1 + x), rfl, ⟨⟨by omega, by omega⟩, by omega⟩, h3.mono (by omega)⟩
    · have hl : f.length ≠ 20 := fun e => hl (by rw [e]; decide)
      walk_at "go"
      refine ite_c (fun hw3 => ?_) fun hw3 => ?_
      · walk_at "go"
        exact ⟨.come (1 + x), rfl, ⟨⟨by omega, by omega⟩, by omega⟩, h3.mono (by omega)⟩
      · have ne : fNe (.tup (p.map .int)) (.tup []) S3 = .ok (!decide (p = [])) S3 := by
          have e := fNe_sm (S := S3) (sm_ints (ns := p) (fun x hx => by have := ps x hx; omega)).1 (sm_ints (ns := []) (fun x hx => by cases hx)).1 rfl
          rw [eqv_tupM D.int eqv_int] at e
          exact e
        walk_at "go"
        refine ite_c (fun hw => ?_) fun hw => ?_
        · walk_at "go"
          refine wp_val_ok ne ?_
          refine ite_c (fun hp => ?_) fun hp => ?_
          · have hp : 0 < p.length := List.length_pos_iff.mpr (by simpa using hp)
            walk_at "go"
            rw [lp]
            refine Wp.imp (sp_draw h3 (by omega) (by omega) (by omega)) ?_
            rintro _ S1 ⟨r, rfl, r0, r1, h1⟩
            walk_at "go"
            obtain ⟨k, rfl⟩ := Int.eq_ofNat_of_zero_le r0
            exact ⟨.take k, rfl, (by show k < p.length; omega), h1⟩
          · have hp : p.length = 0 := by rw [List.length_eq_zero_iff]; simpa using hp
            walk_at "go"
            exact ⟨.put (1 + x), rfl, ⟨⟨by omega, by omega⟩, by omega⟩, h3.mono (by omega)⟩
        · refine ite_f (by simp) ?_
          walk_at "go"
          rw [lp]
          refine ite_c (fun hl => ?_) fun hl => ?_
          · have hl : p.length = 20 := by
              have : (p.length : Int) = 20 := by simpa using hl
              omega
            walk_at "go"
            rw [lp]
            refine Wp.imp (sp_draw h3 (by omega) (by omega) (by omega)) ?_
            rintro _ S1 ⟨r, rfl, r0, r1, h1⟩
            walk_at "go"
            obtain ⟨k, rfl⟩ := Int.eq_ofNat_of_zero_le r0
            exact ⟨.take k, rfl, (by show k < p.length; omega), h1⟩
          · have hl : p.length ≠ 20 := fun e => hl (by rw [e]; decide)
            walk_at "go"
            exact ⟨.put (1 + x), rfl, ⟨⟨by omega, by omega⟩, by omega⟩, h3.mono (by omega)⟩

theorem lt_def {f : List Int} {s : Int} : (f.filter fun x => decide (x < s)).length = lt f s := List.countP_eq_length_filter.symm
theorem ge_def {f : List Int} {s : Int} : (f.filter fun x => decide (s ≤ x)).length = ge f s := List.countP_eq_length_filter.symm
theorem eq_counts {f p : List Int} {s : Int} {S : Sto} : den_counts_at [hallD f p, .int s] S = .ok (.tup [.int (lt f s), .int (ge p s)]) S := by
  refine Wp.eqn ?_
  unfold den_counts_at
  walk_at "go"
  walk_at "lcF"
  walk_at "go"
  walk_at "lcF"
  walk_at "go"
  simp only [List.length_map, lt_def, ge_def, and_self]

def tries (f p : List Int) : List Int := setI (1 :: (f ++ p).map (· + 1))
theorem tries_ne {f p : List Int} : tries f p ≠ [] := fun e => by
  have : (1 : Int) ∈ tries f p := mem_setI.mpr (List.mem_cons_self ..)
  rw [e] at this
  cases this
theorem eq_tries {f p : List Int} {S : Sto} (hf : f.length ≤ 25) (hp : p.length ≤ 25) : den_sizes_to_try [hallD f p] S = .ok (.lst ((tries f p).map .int)) S := by
  refine Wp.eqn ?_
  unfold den_sizes_to_try
  walk_at "go"
  rw [List.append_nil, ← List.map_append]
  walk_at "go"
  walk_at "lcT"
  walk_at "go"
  have e : D.int 1 :: (List.map (fun x => D.int (x + 1)) (f ++ p) ++ []) = (1 :: (f ++ p).map (· + 1)).map D.int := by simp [Function.comp_def]
  rw [e]
  refine sortSet2_l (by simp; omega) ?_
  exact ⟨rfl, rfl⟩
theorem max_below {P : Int → Bool} : ∀ (l : List Int), (∃ x ∈ l, P x = true) → ∃ t ∈ l, P t = true ∧ ∀ x ∈ l, P x = true → x ≤ t
  | [], h => by obtain ⟨x, hx, _⟩ := h; cases hx
  | a :: l, h => by
    by_cases hl : ∃ x ∈ l, P x = true
    · obtain ⟨t, t1, t2, t3⟩ := max_below l hl
      by_cases ha : P a = true ∧ t < a
      · exact ⟨a, List.mem_cons_self .., ha.1, fun x hx px => by
          rcases List.mem_cons.mp hx with rfl | hx
          · exact Int.le_refl _
          · have := t3 x hx px; omega⟩
      · exact ⟨t, List.mem_cons_of_mem _ t1, t2, fun x hx px => by
          rcases List.mem_cons.mp hx with rfl | hx
          · by_cases h : t < x
            · exact absurd ⟨px, h⟩ ha
            · omega
          · exact t3 x hx px⟩
    · obtain ⟨x, hx, px⟩ := h
      rcases List.mem_cons.mp hx with rfl | hx
      · exact ⟨x, List.mem_cons_self .., px, fun y hy py => by
          rcases List.mem_cons.mp hy with rfl | hy
          · exact Int.le_refl _
          · exact absurd ⟨y, hy, py⟩ hl⟩
      · exact absurd ⟨x, hx, px⟩ hl
theorem lt_same {f : List Int} {s t : Int} (h : ∀ x ∈ f, x < s ↔ x < t) : lt f s = lt f t := List.countP_congr fun x hx => by simpa using h x hx
theorem ge_same {f : List Int} {s t : Int} (h : ∀ x ∈ f, x < s ↔ x < t) : ge f s = ge f t := List.countP_congr fun x hx => by have := h x hx; simp; omega
/-- the sizes to try are enough -/
theorem tries_all {f p : List Int} (hf : ∀ x ∈ f, 1 ≤ x) (hp : ∀ x ∈ p, 1 ≤ x) (s : Int) : ∃ t ∈ tries f p, lt f s = lt f t ∧ ge p s = ge p t := by
  have m1 : (1 : Int) ∈ tries f p := mem_setI.mpr (List.mem_cons_self ..)
  by_cases hs : s ≤ 1
  · exact ⟨1, m1, lt_same fun x hx => by have := hf x hx; omega, ge_same fun x hx => by have := hp x hx; omega⟩
  · obtain ⟨t, t1, t2, t3⟩ := max_below (P := fun x => decide (x ≤ s)) (tries f p) ⟨1, m1, by simp; omega⟩
    have t2 : t ≤ s := by simpa using t2
    have key : ∀ x ∈ f ++ p, x < s ↔ x < t := fun x hx => by
      constructor
      · intro h
        have : x + 1 ∈ tries f p := mem_setI.mpr (List.mem_cons_of_mem _ (List.mem_map.mpr ⟨x, hx, rfl⟩))
        have := t3 _ this (by simp; omega)
        omega
      · intro h; omega
    exact ⟨t, t1, lt_same fun x hx => key x (List.mem_append_left _ hx), ge_same fun x hx => key x (List.mem_append_right _ hx)⟩

theorem ex_most {f p : List Int} {S : Sto} (hf : f.length ≤ 25) (hp : p.length ≤ 25) (ff : ∀ x ∈ f, 1 ≤ x) (pp : ∀ x ∈ p, 1 ≤ x) : ∃ k, IsMost f p k ∧ den_most_served [hallD f p] S = .ok (.int k) S := by
  have z : WpE noX (den_most_served [hallD f p] S) fun d S' => S' = S ∧ ∃ k : Nat, d = .int k ∧ IsMost f p k := by
    unfold den_most_served
    walk_at "go"
    refine wp_val_ok (eq_tries hf hp) ?_
    walk_at "go"
    refine lc_mapT D.int (fun s => .int ((lt f s : Int) + ge p s)) _ (fun s hs => ?_) ?_
    · walk_at "go"
      refine wp_val_ok eq_counts ?_
      walk_at "go"
      exact ⟨rfl, rfl⟩
    walk_at "go"
    rw [map_int]
    refine wp_minZ (by simpa using tries_ne) fun m hm hl => ⟨rfl, ?_⟩
    obtain ⟨t, ht, rfl⟩ := List.mem_map.mp hm
    refine ⟨lt f t + ge p t, by simp, fun s => ?_, t, Nat.le_refl _⟩
    obtain ⟨u, hu, e1, e2⟩ := tries_all ff pp s
    have := hl _ (List.mem_map.mpr ⟨u, hu, rfl⟩)
    rw [e1, e2]; omega
  obtain ⟨d, S', e, rfl, k, rfl, h⟩ := Wp.ex z
  exact ⟨k, h, e⟩
theorem eq_most {f p : List Int} {S : Sto} {k : Nat} (hf : f.length ≤ 25) (hp : p.length ≤ 25) (ff : ∀ x ∈ f, 1 ≤ x) (pp : ∀ x ∈ p, 1 ≤ x) (hk : IsMost f p k) : den_most_served [hallD f p] S = .ok (.int k) S := by
  obtain ⟨j, hj, e⟩ := ex_most (S := S) hf hp ff pp
  rw [e, hj.uniq hk]

theorem ex_few {f p : List Int} {S : Sto} (hf : f.length ≤ 25) (hp : p.length ≤ 25) (ff : ∀ x ∈ f, 1 ≤ x) (pp : ∀ x ∈ p, 1 ≤ x) : ∃ k, IsFew f p k ∧ den_fewest_served [hallD f p] S = .ok (.int k) S := by
  have z : WpE noX (den_fewest_served [hallD f p] S) fun d S' => S' = S ∧ ∃ k : Nat, d = .int k ∧ IsFew f p k := by
    unfold den_fewest_served
    walk_at "go"
    refine wp_val_ok (eq_tries hf hp) ?_
    walk_at "go"
    refine lc_mapT D.int (fun s => .int (max (lt f s : Int) (ge p s))) _ (fun s hs => ?_) ?_
    · walk_at "go"
      refine wp_val_ok eq_counts ?_
      walk_at "go"
      exact ⟨rfl, rfl⟩
    walk_at "go"
    rw [map_int]
    refine wp_minZ (by simpa using tries_ne) fun m hm hl => ⟨rfl, ?_⟩
    obtain ⟨t, ht, rfl⟩ := List.mem_map.mp hm
    refine ⟨max (lt f t) (ge p t), by congr 1; omega, fun s => ?_, t, by omega, by omega⟩
    obtain ⟨u, hu, e1, e2⟩ := tries_all ff pp s
    have := hl _ (List.mem_map.mpr ⟨u, hu, rfl⟩)
    rw [e1, e2]; omega
  obtain ⟨d, S', e, rfl, k, rfl, h⟩ := Wp.ex z
  exact ⟨k, h, e⟩
theorem eq_few {f p : List Int} {S : Sto} {k : Nat} (hf : f.length ≤ 25) (hp : p.length ≤ 25) (ff : ∀ x ∈ f, 1 ≤ x) (pp : ∀ x ∈ p, 1 ≤ x) (hk : IsFew f p k) : den_fewest_served [hallD f p] S = .ok (.int k) S := by
  obtain ⟨j, hj, e⟩ := ex_few (S := S) hf hp ff pp
  rw [e, hj.uniq hk]

theorem eq_num {v lo hi : Int} {S : Sto} : den_is_number [.int v, .int lo, .int hi] S = .ok (.bl (decide (lo ≤ v ∧ v ≤ hi))) S := by
  refine Wp.eqn ?_
  unfold den_is_number
  walk_at "go"
  refine ite_c (fun hb => ?_) fun hb => ?_
  · walk_at "go"
    have h1 : lo ≤ v := by simpa using hb
    simp [h1]
  · walk_at "go"
    have h1 : ¬lo ≤ v := by simpa using hb
    simp [h1]
theorem enI_snd : ∀ {ns : List Int} {k : Nat} {x : Int × Int}, x ∈ enI k ns → x.2 ∈ ns
  | [], _, _, h => (by cases h)
  | n :: ns, k, x, h => by
    rcases List.mem_cons.mp h with e | h
    · rw [e]; exact List.mem_cons_self ..
    · exact List.mem_cons_of_mem _ (enI_snd h)
theorem eq_isize {v : Int} {S : Sto} : den_is_size [.int v] S = .ok (.bl (decide (1 ≤ v ∧ v ≤ 1000000))) S := by
  refine Wp.eqn ?_
  unfold den_is_size
  walk_at "go"
  refine wp_val_ok eq_num ?_
  exact ⟨rfl, rfl⟩
theorem eq_firstN {ns : List Int} {S : Sto} (h : ∀ x ∈ ns, 1 ≤ x ∧ x ≤ 1000000) : den_first_wrong [.tup (ns.map .int)] S = .ok .non S := by
  refine Wp.eqn ?_
  unfold den_first_wrong
  walk_at "go"
  rw [enum_ints]
  refine for_inv (fun i ρ S1 => ∃ a1 a2, ρ = [some (.tup (ns.map .int)), a1, a2] ∧ S1 = S) ⟨_, _, rfl, rfl⟩ ?_ ?_
  · rintro i d ρ S1 hd ⟨a1, a2, rfl, rfl⟩
    obtain ⟨q, rfl, hi, -, htk, hx, hxi⟩ := mapE_getD hd
    have hb := h _ (enI_snd hx)
    walk_at "go"
    refine wp_val_ok eq_isize ?_
    rw [decide_eq_true hb]
    walk_at "go"
    exact ⟨_, _, rfl, rfl⟩
  · rintro ρ S1 ⟨a1, a2, rfl, rfl⟩
    walk_at "go"
    exact ⟨rfl, rfl⟩
theorem eq_herr {f p : List Int} {S : Sto} (h0 : 1 ≤ f.length) (h1 : f.length ≤ 20) (h2 : p.length ≤ 20) (hf : ∀ x ∈ f, 1 ≤ x ∧ x ≤ 1000000) (hp : ∀ x ∈ p, 1 ≤ x ∧ x ≤ 1000000) : den_hall_error [hallD f p] S = .ok .non S := by
  have lf : (List.map D.int f).length = f.length := List.length_map ..
  have lp : (List.map D.int p).length = p.length := List.length_map ..
  refine Wp.eqn ?_
  unfold den_hall_error
  walk_at "go"
  refine wp_val_ok (eq_firstN hf) ?_
  walk_at "go"
  refine wp_val_ok (eq_firstN hp) ?_
  walk_at "go"
  exact ⟨rfl, rfl⟩

theorem wp_meth0 {EX : XP} {C : Addr} {mn : Str} {den : List D → Sto → Res D} {go : Ev D} {ρ : DEnv} {S : Sto} {Q : D → Sto → Prop} (q : WpE EX (go ρ S) fun x S1 => ∃ n fs, x = .loc n ∧ S1[n]? = some (.ins C fs) ∧ fs.lookup mn = none ∧ WpE EX (den [.loc n] S1) Q) : WpE EX (dMeth0 C mn den go ρ S) Q := by
  unfold dMeth0
  rw [wp_bind]
  exact WpE.mp q fun x S1 h => by
    obtain ⟨n, fs, rfl, e1, e2, h⟩ := h
    rw [insAt_loc e1]
    dsimp only
    rw [e2]
    exact h
abbrev paF (o : Nat) : List (Str × D) := [("states", .loc (o + 1)), ("standing", .loc (o + 2)), ("watching", .bl false), ("ends", .loc (o + 3))]
abbrev paO (cl : CLs) (o : Nat) : O := .ins cl.Party (paF o)
theorem lk_states {o : Nat} : List.lookup ("states" : Str) (paF o) = some (.loc (o + 1)) := by simp
theorem lk_standing {o : Nat} : List.lookup ("standing" : Str) (paF o) = some (.loc (o + 2)) := by
  rw [List.lookup_cons, show (("standing" : Str) == "states") = false by decide +kernel, List.lookup_cons]
  simp
theorem lk_watching {o : Nat} : List.lookup ("watching" : Str) (paF o) = some (.bl false) := by
  rw [List.lookup_cons, show (("watching" : Str) == "states") = false by decide +kernel, List.lookup_cons, show (("watching" : Str) == "standing") = false by decide +kernel, List.lookup_cons]
  simp
theorem lk_ends {o : Nat} : List.lookup ("ends" : Str) (paF o) = some (.loc (o + 3)) := by
  rw [List.lookup_cons, show (("ends" : Str) == "states") = false by decide +kernel, List.lookup_cons, show (("ends" : Str) == "standing") = false by decide +kernel, List.lookup_cons, show (("ends" : Str) == "watching") = false by decide +kernel, List.lookup_cons]
  simp
theorem lk_no {o : Nat} {m : Str} (h1 : (m == "states") = false) (h2 : (m == "standing") = false) (h3 : (m == "watching") = false) (h4 : (m == "ends") = false) : List.lookup m (paF o) = none := by
  rw [List.lookup_cons, h1, List.lookup_cons, h2, List.lookup_cons, h3, List.lookup_cons, h4]
  rfl
theorem wp_fldL {EX : XP} {C : Addr} {f : Str} {go : Ev D} {ρ : DEnv} {S : Sto} {n : Nat} {fs : List (Str × D)} {d : D} {Q : D → Sto → Prop} (hg : WpE EX (go ρ S) fun x S1 => x = .loc n ∧ S1 = S) (e : S[n]? = some (.ins C fs)) (e2 : fs.lookup f = some d) (q : Q d S) : WpE EX (dFld C f go ρ S) Q := by
  refine wp_fld (WpE.mp hg ?_)
  rintro _ _ ⟨rfl, rfl⟩
  exact ⟨n, fs, d, rfl, e, e2, q⟩
theorem eq_wguest {f : List Int} {x : Int} {S : Sto} (h1 : 1 ≤ x) (h2 : x ≤ 1000000) (hf : f.length < 20) : den_with_guest [.tup (f.map .int), .int x] S = .ok (.tup ((f ++ [x]).map .int)) S := by
  have lf : (List.map D.int f).length = f.length := List.length_map ..
  refine Wp.eqn ?_
  unfold den_with_guest
  walk_at "go"
  refine wp_val_ok eq_within ?_
  rw [decide_eq_true h1, decide_eq_true h2]
  walk_at "go"
  rw [List.map_append]
  exact ⟨rfl, rfl⟩
theorem eq_woguest {f : List Int} {i : Nat} {S : Sto} (h1 : i < f.length) (h2 : 1 < f.length) (hf : f.length ≤ 20) : den_without_guest [.tup (f.map .int), .int (i : Int)] S = .ok (.tup ((f.eraseIdx i).map .int)) S := by
  have lf : (List.map D.int f).length = f.length := List.length_map ..
  refine Wp.eqn ?_
  unfold den_without_guest
  walk_at "go"
  rw [lf]
  refine wp_val_ok eq_within ?_
  rw [decide_eq_true (show (0 : Int) ≤ i by omega), decide_eq_true (show (i : Int) ≤ f.length - 1 by omega)]
  walk_at "go"
  rw [Int.toNat_natCast, show ((i : Int) + 1).toNat = i + 1 by omega, List.append_nil, cut_ab]
  refine ⟨line_le (by rw [List.length_map, List.length_eraseIdx_of_lt h1]; omega), rfl, rfl⟩
theorem eq_wpair {f : List Int} {x : Int} {S : Sto} (h1 : 1 ≤ x) (h2 : x ≤ 1000000) (hf : f.length < 20) : den_with_pair [.tup (f.map .int), .int x] S = .ok (.tup ((f ++ [x]).map .int)) S := by
  have lf : (List.map D.int f).length = f.length := List.length_map ..
  refine Wp.eqn ?_
  unfold den_with_pair
  walk_at "go"
  refine wp_val_ok eq_within ?_
  rw [decide_eq_true h1, decide_eq_true h2]
  walk_at "go"
  rw [List.map_append]
  exact ⟨rfl, rfl⟩
theorem eq_wopair {f : List Int} {i : Nat} {S : Sto} (h1 : i < f.length) (hf : f.length ≤ 20) : den_without_pair [.tup (f.map .int), .int (i : Int)] S = .ok (.tup ((f.eraseIdx i).map .int)) S := by
  have lf : (List.map D.int f).length = f.length := List.length_map ..
  refine Wp.eqn ?_
  unfold den_without_pair
  walk_at "go"
  rw [lf]
  refine wp_val_ok eq_within ?_
  rw [decide_eq_true (show (0 : Int) ≤ i by omega), decide_eq_true (show (i : Int) ≤ f.length - 1 by omega)]
  walk_at "go"
  rw [Int.toNat_natCast, show ((i : Int) + 1).toNat = i + 1 by omega, List.append_nil, cut_ab]
  refine ⟨line_le (by rw [List.length_map, List.length_eraseIdx_of_lt h1]; omega), rfl, rfl⟩
theorem dc_hit {y : Str} {g : St'} {r : List (Option Str × St')} {ρ : DEnv} {S : Sto} : dCases y ((some y, g) :: r) ρ S = g ρ S := if_pos rfl
theorem dc_miss {y z : Str} {g : St'} {r : List (Option Str × St')} {ρ : DEnv} {S : Sto} (h : y ≠ z) : dCases y ((some z, g) :: r) ρ S = dCases y r ρ S := if_neg h
theorem dc_wild {y : Str} {g : St'} {r : List (Option Str × St')} {ρ : DEnv} {S : Sto} : dCases y ((none, g) :: r) ρ S = g ρ S := rfl
theorem eq_state_after {cl : CLs} {o : Nat} {S : Sto} {f p : List Int} {e : Ed} {ss : List D} (ho : S[o]? = some (paO cl o)) (hs : S[o + 1]? = some (.lst (ss ++ [hallD f p]))) (fl : f.length ≤ 20) (pl : p.length ≤ 20) (he : EdOk e f p) :
    den_Party_state_after cl [.loc o, encE e] S = .ok (hallD (aftF e f) (aftP e p)) S := by
  refine Wp.eqn ?_
  unfold den_Party_state_after
  cases e with
  | come x =>
    rw [show encE (.come x) = D.tup [.str "come", .int x] from rfl]
    walk_at "go"
    refine wp_fldL (by walk_at "go"; exact ⟨rfl, rfl⟩) ho lk_states ?_
    walk_at "go"
    refine wp_ix_loc hs atI_last ?_
    walk_at "go"
    refine ws_match ?_
    walk_at "go"
    refine ⟨_, rfl, ?_⟩
    rw [dc_hit]
    walk_at "go"
    refine wp_val_ok (eq_wguest he.1.1 he.1.2 he.2) ?_
    walk_at "go"
    exact ⟨rfl, rfl⟩
  | leave i =>
    rw [show encE (.leave i) = D.tup [.str "leave", .int (i : Int)] from rfl]
    walk_at "go"
    refine wp_fldL (by walk_at "go"; exact ⟨rfl, rfl⟩) ho lk_states ?_
    walk_at "go"
    refine wp_ix_loc hs atI_last ?_
    walk_at "go"
    refine ws_match ?_
    walk_at "go"
    refine ⟨_, rfl, ?_⟩
    rw [dc_miss (by decide +kernel)]
    rw [dc_hit]
    walk_at "go"
    refine wp_val_ok (eq_woguest he.1 he.2 fl) ?_
    walk_at "go"
    exact ⟨rfl, rfl⟩
  | put x =>
    rw [show encE (.put x) = D.tup [.str "put", .int x] from rfl]
    walk_at "go"
    refine wp_fldL (by walk_at "go"; exact ⟨rfl, rfl⟩) ho lk_states ?_
    walk_at "go"
    refine wp_ix_loc hs atI_last ?_
    walk_at "go"
    refine ws_match ?_
    walk_at "go"
    refine ⟨_, rfl, ?_⟩
    rw [dc_miss (by decide +kernel)]
    rw [dc_miss (by decide +kernel)]
    rw [dc_hit]
    walk_at "go"
    refine wp_val_ok (eq_wpair he.1.1 he.1.2 he.2) ?_
    walk_at "go"
    exact ⟨rfl, rfl⟩
  | take i =>
    rw [show encE (.take i) = D.tup [.str "take", .int (i : Int)] from rfl]
    walk_at "go"
    refine wp_fldL (by walk_at "go"; exact ⟨rfl, rfl⟩) ho lk_states ?_
    walk_at "go"
    refine wp_ix_loc hs atI_last ?_
    walk_at "go"
    refine ws_match ?_
    walk_at "go"
    refine ⟨_, rfl, ?_⟩
    rw [dc_miss (by decide +kernel)]
    rw [dc_miss (by decide +kernel)]
    rw [dc_miss (by decide +kernel)]
    rw [dc_wild]
    walk_at "go"
    refine wp_val_ok (eq_wopair he pl) ?_
    walk_at "go"
    exact ⟨rfl, rfl⟩

theorem line_lt {n : Nat} (h : n ≤ 10000) : n < sizeLine := Nat.lt_of_le_of_lt h (by decide)
theorem get_set_ne {S : Sto} {i j : Nat} {x : O} (h : i ≠ j) : (S.set i x)[j]? = S[j]? := by rw [List.getElem?_set_ne h]
theorem get_set_eq {S : Sto} {i : Nat} {x y : O} (h : S[i]? = some y) : (S.set i x)[i]? = some x := by
  have := (List.getElem?_eq_some_iff.mp h).1
  rw [List.getElem?_set_self this]
/-- the store behind an edit -/
def pStep (S : Sto) (o : Nat) (ss es en : List D) (h e : D) (kf km : Nat) : Sto := ((S.set (o + 1) (.lst (ss ++ [h]))).set (o + 3) (.lst (en ++ [.tup [.int kf, .int km]]))).set (o + 2) (.lst (es ++ [e]))
theorem eq_perform {cl : CLs} {o : Nat} {S : Sto} {f p : List Int} {e : Ed} {ss es en : List D} {kf km : Nat} (ho : S[o]? = some (paO cl o)) (hs : S[o + 1]? = some (.lst (ss ++ [hallD f p]))) (ht : S[o + 2]? = some (.lst es)) (hn : S[o + 3]? = some (.lst en))
    (hh : HallOk 20 20 f p) (he : EdOk e f p) (l1 : ss.length ≤ 50) (l2 : es.length ≤ 50) (l3 : en.length ≤ 50) (kF : IsFew (aftF e f) (aftP e p) kf) (kM : IsMost (aftF e f) (aftP e p) km) :
    den_Party_perform cl [.loc o, encE e] S = .ok (.int ((es.length + 1 : Nat) : Int)) (pStep S o (ss ++ [hallD f p]) es en (hallD (aftF e f) (aftP e p)) (encE e) kf km) := by
  obtain ⟨a1, a2, a3, a4, a5⟩ := hh.aft he
  have fl := hh.fl
  have pl := hh.pl
  refine Wp.eqn ?_
  unfold den_Party_perform
  walk_at "go"
  refine wp_fldL (by walk_at "go"; exact ⟨rfl, rfl⟩) ho lk_standing ?_
  walk_at "go"
  refine wp_meth ?_
  walk_at "go"
  refine ⟨o, _, rfl, ho, lk_no (by decide +kernel) (by decide +kernel) (by decide +kernel) (by decide +kernel), ?_⟩
  walk_at "go"
  refine wp_val_ok (eq_state_after ho hs (by omega) (by omega) he) ?_
  walk_at "go"
  refine wp_val_ok (eq_few (by omega) (by omega) (fun x hx => (a4 x hx).1) (fun x hx => (a5 x hx).1) kF) ?_
  walk_at "go"
  refine wp_meth ?_
  walk_at "go"
  refine ⟨o, _, rfl, ho, lk_no (by decide +kernel) (by decide +kernel) (by decide +kernel) (by decide +kernel), ?_⟩
  unfold den_Party_accept
  walk_at "go"
  refine wp_fldL (by walk_at "go"; exact ⟨rfl, rfl⟩) ho lk_states ?_
  walk_at "go"
  refine wp_append hs (line_lt (by simp; omega)) ?_
  have ho1 := (get_set_ne (S := S) (x := .lst (ss ++ [hallD f p] ++ [hallD (aftF e f) (aftP e p)])) (show o + 1 ≠ o by omega)).trans ho
  have ht1 := (get_set_ne (S := S) (x := .lst (ss ++ [hallD f p] ++ [hallD (aftF e f) (aftP e p)])) (show o + 1 ≠ o + 2 by omega)).trans ht
  have hn1 := (get_set_ne (S := S) (x := .lst (ss ++ [hallD f p] ++ [hallD (aftF e f) (aftP e p)])) (show o + 1 ≠ o + 3 by omega)).trans hn
  unfold pStep
  generalize S.set (o + 1) (.lst (ss ++ [hallD f p] ++ [hallD (aftF e f) (aftP e p)])) = S1 at *
  walk_at "go"
  refine wp_fldL (by walk_at "go"; exact ⟨rfl, rfl⟩) ho1 lk_ends ?_
  walk_at "go"
  refine wp_val_ok (eq_most (by omega) (by omega) (fun x hx => (a4 x hx).1) (fun x hx => (a5 x hx).1) kM) ?_
  walk_at "go"
  refine wp_append hn1 (line_lt (by omega)) ?_
  have ho2 := (get_set_ne (S := S1) (x := .lst (en ++ [.tup [.int kf, .int km]])) (show o + 3 ≠ o by omega)).trans ho1
  have ht2 := (get_set_ne (S := S1) (x := .lst (en ++ [.tup [.int kf, .int km]])) (show o + 3 ≠ o + 2 by omega)).trans ht1
  generalize S1.set (o + 3) (.lst (en ++ [.tup [.int kf, .int km]])) = S2 at *
  walk_at "go"
  refine wp_fldL (by walk_at "go"; exact ⟨rfl, rfl⟩) ho2 lk_standing ?_
  walk_at "go"
  refine wp_append ht2 (line_lt (by omega)) ?_
  have ho3 := (get_set_ne (S := S2) (x := .lst (es ++ [encE e])) (show o + 2 ≠ o by omega)).trans ho2
  have ht3 := get_set_eq (x := .lst (es ++ [encE e])) ht2
  generalize S2.set (o + 2) (.lst (es ++ [encE e])) = S3 at *
  walk_at "go"
  refine wp_fldL (by walk_at "go"; exact ⟨rfl, rfl⟩) ho3 lk_standing ?_
  walk_at "go"
  rw [List.length_append]
  exact ⟨rfl, rfl⟩
theorem eq_idle {cl : CLs} {o : Nat} {S : Sto} (ho : S[o]? = some (paO cl o)) : den_Party_require_idle cl [.loc o] S = .ok .non S := by
  refine Wp.eqn ?_
  unfold den_Party_require_idle
  walk_at "go"
  refine wp_fldL (by walk_at "go"; exact ⟨rfl, rfl⟩) ho lk_watching ?_
  walk_at "go"
  exact ⟨rfl, rfl⟩
theorem eq_do {cl : CLs} {o : Nat} {S S' : Sto} {e : Ed} {d : D} (ho : S[o]? = some (paO cl o)) (hp : den_Party_perform cl [.loc o, encE e] S = .ok d S') : den__law_do cl [.loc o, encE e] S = .ok d S' := by
  refine Wp.eqn ?_
  unfold den__law_do
  cases e with
  | come x =>
    rw [show encE (.come x) = D.tup [.str "come", .int x] from rfl] at hp ⊢
    walk_at "go"
    refine wp_meth ?_
    walk_at "go"
    refine ⟨o, _, rfl, ho, lk_no (by decide +kernel) (by decide +kernel) (by decide +kernel) (by decide +kernel), ?_⟩
    walk_at "go"
    unfold den_Party_come
    walk_at "go"
    refine wp_meth0 ?_
    walk_at "go"
    refine ⟨o, _, rfl, ho, lk_no (by decide +kernel) (by decide +kernel) (by decide +kernel) (by decide +kernel), ?_⟩
    refine wp_val_ok (eq_idle ho) ?_
    walk_at "go"
    refine wp_meth ?_
    walk_at "go"
    refine ⟨o, _, rfl, ho, lk_no (by decide +kernel) (by decide +kernel) (by decide +kernel) (by decide +kernel), ?_⟩
    walk_at "go"
    refine wp_val_ok hp ?_
    walk_at "go"
    exact ⟨rfl, rfl⟩
  | leave i =>
    rw [show encE (.leave i) = D.tup [.str "leave", .int (i : Int)] from rfl] at hp ⊢
    walk_at "go"
    refine wp_meth ?_
    walk_at "go"
    refine ⟨o, _, rfl, ho, lk_no (by decide +kernel) (by decide +kernel) (by decide +kernel) (by decide +kernel), ?_⟩
    walk_at "go"
    unfold den_Party_leave
    walk_at "go"
    refine wp_meth0 ?_
    walk_at "go"
    refine ⟨o, _, rfl, ho, lk_no (by decide +kernel) (by decide +kernel) (by decide +kernel) (by decide +kernel), ?_⟩
    refine wp_val_ok (eq_idle ho) ?_
    walk_at "go"
    refine wp_meth ?_
    walk_at "go"
    refine ⟨o, _, rfl, ho, lk_no (by decide +kernel) (by decide +kernel) (by decide +kernel) (by decide +kernel), ?_⟩
    walk_at "go"
    refine wp_val_ok hp ?_
    walk_at "go"
    exact ⟨rfl, rfl⟩
  | put x =>
    rw [show encE (.put x) = D.tup [.str "put", .int x] from rfl] at hp ⊢
    walk_at "go"
    refine wp_meth ?_
    walk_at "go"
    refine ⟨o, _, rfl, ho, lk_no (by decide +kernel) (by decide +kernel) (by decide +kernel) (by decide +kernel), ?_⟩
    walk_at "go"
    unfold den_Party_put
    walk_at "go"
    refine wp_meth0 ?_
    walk_at "go"
    refine ⟨o, _, rfl, ho, lk_no (by decide +kernel) (by decide +kernel) (by decide +kernel) (by decide +kernel), ?_⟩
    refine wp_val_ok (eq_idle ho) ?_
    walk_at "go"
    refine wp_meth ?_
    walk_at "go"
    refine ⟨o, _, rfl, ho, lk_no (by decide +kernel) (by decide +kernel) (by decide +kernel) (by decide +kernel), ?_⟩
    walk_at "go"
    refine wp_val_ok hp ?_
    walk_at "go"
    exact ⟨rfl, rfl⟩
  | take i =>
    rw [show encE (.take i) = D.tup [.str "take", .int (i : Int)] from rfl] at hp ⊢
    walk_at "go"
    refine wp_meth ?_
    walk_at "go"
    refine ⟨o, _, rfl, ho, lk_no (by decide +kernel) (by decide +kernel) (by decide +kernel) (by decide +kernel), ?_⟩
    walk_at "go"
    unfold den_Party_take
    walk_at "go"
    refine wp_meth0 ?_
    walk_at "go"
    refine ⟨o, _, rfl, ho, lk_no (by decide +kernel) (by decide +kernel) (by decide +kernel) (by decide +kernel), ?_⟩
    refine wp_val_ok (eq_idle ho) ?_
    walk_at "go"
    refine wp_meth ?_
    walk_at "go"
    refine ⟨o, _, rfl, ho, lk_no (by decide +kernel) (by decide +kernel) (by decide +kernel) (by decide +kernel), ?_⟩
    walk_at "go"
    refine wp_val_ok hp ?_
    walk_at "go"
    exact ⟨rfl, rfl⟩
theorem set0 {S L : Sto} {x y : O} : (S ++ x :: L).set S.length y = S ++ y :: L := by
  rw [List.set_append_right _ _ (Nat.le_refl _), Nat.sub_self]; rfl
theorem get0 {S L : Sto} {x : O} : (S ++ x :: L)[S.length]? = some x := by simp
theorem app0 {S L : Sto} {x y : O} : S ++ x :: L ++ [y] = S ++ x :: (L ++ [y]) := by simp
theorem len0 {S L : Sto} {x : O} : (S ++ x :: L).length = S.length + (L.length + 1) := by simp
theorem putO_ne {f g : Str} {d x : D} {r : List (Str × D)} (h : g ≠ f) : putO f d ((g, x) :: r) = (g, x) :: putO f d r := if_neg h
theorem putO_nil {f : Str} {d : D} : putO f d [] = [(f, d)] := rfl
theorem put_pa {a b c d : D} : putO "ends" d (putO "watching" c (putO "standing" b (putO "states" a []))) = [(("states" : Str), a), (("standing" : Str), b), (("watching" : Str), c), (("ends" : Str), d)] := by
  repeat (first | rw [putO_nil] | rw [putO_ne (by decide +kernel)])
theorem wp_party {cl : CLs} {ρ : DEnv} {S S0 : Sto} {gs : Ev (List D)} {f p : List Int} {kf km : Nat} {Q : D → Sto → Prop} (hh : HallOk 20 20 f p) (kF : IsFew f p kf) (kM : IsMost f p km)
    (hg : WpE noX (gs ρ S0) fun ds S1 => ds = [hallD f p] ∧ S1 = S) (q : Q (.loc S.length) (S ++ paO cl S.length :: [.lst [hallD f p], .lst [], .lst [.tup [.int kf, .int km]]])) : WpE noX (dMake cl.Party (den_Party___init__ cl) gs ρ S0) Q := by
  obtain ⟨a1, a2, a3, a4, a5⟩ := hh
  refine wp_make (Wp.imp hg ?_)
  intro ds S1 hh
  rw [hh.1, hh.2]
  clear hh hg
  unfold den_Party___init__
  walk_at "go"
  refine wp_val_ok (eq_herr a1 (by omega) (by omega) a4 a5) ?_
  walk_at "go"
  refine ws_setF ?_
  walk_at "go"
  rw [app0, show (S ++ [O.ins cl.Party []]).length = S.length + 1 by simp]
  refine ⟨S.length, [], rfl, get0, by decide, ?_⟩
  rw [set0]
  walk_at "go"
  refine ws_setF ?_
  walk_at "go"
  rw [app0, len0]
  refine ⟨S.length, _, rfl, get0, (show 1 < 1000 by decide), ?_⟩
  rw [set0]
  walk_at "go"
  refine ws_setF ?_
  walk_at "go"
  refine ⟨S.length, _, rfl, get0, (show 2 < 1000 by decide), ?_⟩
  rw [set0]
  walk_at "go"
  refine ws_setF ?_
  walk_at "go"
  refine wp_val_ok (eq_few (by omega) (by omega) (fun x hx => (a4 x hx).1) (fun x hx => (a5 x hx).1) kF) ?_
  walk_at "go"
  refine wp_val_ok (eq_most (by omega) (by omega) (fun x hx => (a4 x hx).1) (fun x hx => (a5 x hx).1) kM) ?_
  walk_at "go"
  rw [app0, len0]
  refine ⟨S.length, _, rfl, get0, (show 3 < 1000 by decide), ?_⟩
  rw [set0]
  walk_at "go"
  refine ⟨rfl, ?_⟩
  rw [put_pa, len0]
  exact q

theorem keepS {S : Sto} {i : Nat} {x : O} (U : Sto) (h : S[i]? = some x) : (S ++ U)[i]? = some x := by rw [List.getElem?_append_left (List.getElem?_eq_some_iff.mp h).1]; exact h
theorem tl_injS {a b : Str} (h : TL.tl a = TL.tl b) : a = b := by
  cases a; cases b
  exact congrArg Str.mk (Array.toList_inj.mp h)
theorem len_tl (s : Str) : s.length = (TL.tl s).length := by
  show s.cps.size = s.cps.toList.length
  simp
theorem tl_intT {i : Int} (h : 0 ≤ i) : TL.tl (intT i) = TL.numL i.toNat := by
  have e := TL.tl_num i.toNat
  rw [Int.toNat_of_nonneg h] at e
  exact e
theorem intT_len {i : Int} (h : 0 ≤ i ∧ i ≤ 1000000) : (intT i).length ≤ 7 := by
  rw [len_tl, tl_intT h.1]
  exact TL.numL_len (by decide) (by omega)
theorem log_fits {i : Int} (h : 0 ≤ i ∧ i ≤ 1000000) : i.natAbs.log2 < 1920 := by
  by_cases hz : i.natAbs = 0
  · rw [hz]; decide
  · exact (Nat.log2_lt hz).mpr (Nat.lt_of_lt_of_le (show i.natAbs < 2 ^ 20 by omega) (Nat.pow_le_pow_right (by decide) (by decide)))
def paT (a b k m n : Str) : Str := Str.empty ++ a ++ " guests, " ++ b ++ " pairs, served " ++ k ++ " to " ++ m ++ ", " ++ n ++ " edits"
theorem text_eq {a b k m n : Str} : paT a b k m n = Txt.join " " [a, "guests,", b, "pairs, served", k, "to", m ++ ",", n, "edits"] := by
  have h1 : TL.tl " guests, " = TL.tl " " ++ (TL.tl "guests," ++ TL.tl " ") := by decide +kernel
  have h2 : TL.tl " pairs, served " = TL.tl " " ++ (TL.tl "pairs, served" ++ TL.tl " ") := by decide +kernel
  have h3 : TL.tl " to " = TL.tl " " ++ (TL.tl "to" ++ TL.tl " ") := by decide +kernel
  have h4 : TL.tl ", " = TL.tl "," ++ TL.tl " " := by decide +kernel
  have h5 : TL.tl " edits" = TL.tl " " ++ TL.tl "edits" := by decide +kernel
  have h6 : TL.tl Str.empty = [] := by decide +kernel
  refine tl_injS ?_
  unfold paT
  rw [TL.join_eq, TL.tl_join]
  simp only [TL.tl_append, List.map_cons, List.map_nil, h1, h2, h3, h4, h5, h6, TL.joinL, List.append_assoc, List.nil_append]
theorem wp_fmtI {EX : XP} {ρ : DEnv} {S : Sto} {ge : Ev D} {Q : D → Sto → Prop} (q : WpE EX (ge ρ S) fun x S1 => ∃ i, x = .int i ∧ (0 ≤ i ∧ i ≤ 1000000) ∧ Q (.str (intT i)) S1) : WpE EX (dFmt ge ρ S) Q := by
  unfold dFmt
  rw [wp_bind]
  exact WpE.mp q fun x S1 h => by
    obtain ⟨y, rfl, h1, h2⟩ := h
    dsimp only
    rw [if_pos ⟨log_fits h1, line_le (by have := intT_len h1; omega)⟩]
    exact h2
theorem app_len (a b : Str) : (a ++ b).length = a.length + b.length := by
  rw [len_tl, len_tl, len_tl, TL.tl_append, List.length_append]
theorem eq_phall {cl : CLs} {o : Nat} {S : Sto} {ss : List D} {h : D} (ho : S[o]? = some (paO cl o)) (hs : S[o + 1]? = some (.lst (ss ++ [h]))) : den_Party_hall cl [.loc o] S = .ok h S := by
  refine Wp.eqn ?_
  unfold den_Party_hall
  walk_at "go"
  refine wp_fldL (by walk_at "go"; exact ⟨rfl, rfl⟩) ho lk_states ?_
  walk_at "go"
  refine wp_ix_loc hs atI_last ?_
  walk_at "go"
  exact ⟨rfl, rfl⟩
theorem eq_pmost {cl : CLs} {o : Nat} {S : Sto} {en : List D} {a b : D} (ho : S[o]? = some (paO cl o)) (hn : S[o + 3]? = some (.lst (en ++ [.tup [a, b]]))) : den_Party_most cl [.loc o] S = .ok b S := by
  refine Wp.eqn ?_
  unfold den_Party_most
  walk_at "go"
  refine wp_fldL (by walk_at "go"; exact ⟨rfl, rfl⟩) ho lk_ends ?_
  walk_at "go"
  refine wp_ix_loc hn atI_last ?_
  walk_at "go"
  exact ⟨rfl, rfl⟩
theorem eq_pfew {cl : CLs} {o : Nat} {S : Sto} {en : List D} {a b : D} (ho : S[o]? = some (paO cl o)) (hn : S[o + 3]? = some (.lst (en ++ [.tup [a, b]]))) : den_Party_fewest cl [.loc o] S = .ok a S := by
  refine Wp.eqn ?_
  unfold den_Party_fewest
  walk_at "go"
  refine wp_fldL (by walk_at "go"; exact ⟨rfl, rfl⟩) ho lk_ends ?_
  walk_at "go"
  refine wp_ix_loc hn atI_last ?_
  walk_at "go"
  exact ⟨rfl, rfl⟩
theorem eq_pstate {cl : CLs} {o : Nat} {S : Sto} {ss : List D} {h : D} (ho : S[o]? = some (paO cl o)) (hs : S[o + 1]? = some (.lst (ss ++ [h]))) : den_Party_state cl [.loc o] S = .ok h S := by
  refine Wp.eqn ?_
  unfold den_Party_state
  dsimp only [List.cons_append, List.nil_append]
  walk_at "go"
  refine wp_meth ?_
  walk_at "go"
  refine ⟨o, _, rfl, ho, lk_no (by decide +kernel) (by decide +kernel) (by decide +kernel) (by decide +kernel), ?_⟩
  walk_at "go"
  unfold den_Party_hall_at
  walk_at "go"
  refine wp_fldL (by walk_at "go"; exact ⟨rfl, rfl⟩) ho lk_states ?_
  walk_at "go"
  refine wp_ix_loc hs atI_last ?_
  walk_at "go"
  exact ⟨rfl, rfl⟩
theorem eq_pedits {cl : CLs} {o : Nat} {S : Sto} {es : List D} (ho : S[o]? = some (paO cl o)) (ht : S[o + 2]? = some (.lst es)) : den_Party_edits cl [.loc o] S = .ok (.tup es) S := by
  refine Wp.eqn ?_
  unfold den_Party_edits
  walk_at "go"
  refine wp_fldL (by walk_at "go"; exact ⟨rfl, rfl⟩) ho lk_standing ?_
  walk_at "go"
  refine wp_val_ok (fTuple_loc ht) ?_
  walk_at "go"
  exact ⟨rfl, rfl⟩
theorem eq_plen {cl : CLs} {o : Nat} {S : Sto} {es : List D} (ho : S[o]? = some (paO cl o)) (ht : S[o + 2]? = some (.lst es)) : den_Party___len__ cl [.loc o] S = .ok (.int (es.length : Nat)) S := by
  refine Wp.eqn ?_
  unfold den_Party___len__
  walk_at "go"
  refine wp_fldL (by walk_at "go"; exact ⟨rfl, rfl⟩) ho lk_standing ?_
  walk_at "go"
  exact ⟨rfl, rfl⟩

theorem eq_pstr {cl : CLs} {o : Nat} {S : Sto} {f p : List Int} {es ss en : List D} {kf km : Nat} (ho : S[o]? = some (paO cl o)) (hs : S[o + 1]? = some (.lst (ss ++ [hallD f p]))) (ht : S[o + 2]? = some (.lst es)) (hn : S[o + 3]? = some (.lst (en ++ [.tup [.int kf, .int km]])))
    (fl : f.length ≤ 20) (pl : p.length ≤ 20) (k1 : kf ≤ 20) (k2 : km ≤ 20) (le : es.length ≤ 40) : den_Party___str__ cl [.loc o] S = .ok (.str (paT (intT f.length) (intT p.length) (intT kf) (intT km) (intT es.length))) S := by
  have lf : (List.map D.int f).length = f.length := List.length_map ..
  have lp : (List.map D.int p).length = p.length := List.length_map ..
  have c1 := intT_len (i := f.length) (by omega)
  have c2 := intT_len (i := p.length) (by omega)
  have c3 := intT_len (i := kf) (by omega)
  have c4 := intT_len (i := km) (by omega)
  have c5 := intT_len (i := es.length) (by omega)
  refine Wp.eqn ?_
  unfold den_Party___str__
  walk_at "go"
  refine wp_fldL (by walk_at "go"; exact ⟨rfl, rfl⟩) ho lk_states ?_
  walk_at "go"
  refine wp_ix_loc hs atI_last ?_
  walk_at "go"
  refine wp_fldL (by walk_at "go"; exact ⟨rfl, rfl⟩) ho lk_ends ?_
  walk_at "go"
  refine wp_ix_loc hn atI_last ?_
  walk_at "go"
  have z1 : (Str.empty : Str).length = 0 := rfl
  have z2 : (" guests, " : Str).length = 9 := by decide +kernel
  have z3 : (" pairs, served " : Str).length = 15 := by decide +kernel
  have z4 : (" to " : Str).length = 4 := by decide +kernel
  have z5 : (", " : Str).length = 2 := by decide +kernel
  have z6 : (" edits" : Str).length = 6 := by decide +kernel
  refine wp_js ?_
  have hA0 : (Str.empty : Str).length ≤ 0 := by decide
  refine wp_jc (wp_fmtI ?_)
  walk_at "go"
  rw [lf]
  have hA1 : (Str.empty ++ intT f.length).length ≤ 7 := by rw [app_len]; omega
  refine ⟨_, rfl, by omega, _, rfl, line_le (Nat.le_trans hA1 (by decide)), ?_⟩
  generalize eA1 : (Str.empty ++ intT f.length : Str) = A1 at hA1 ⊢
  refine wp_jc ?_
  walk_at "go"
  have hA2 : (A1 ++ " guests, ").length ≤ 16 := by rw [app_len, z2]; omega
  refine ⟨_, rfl, line_le (Nat.le_trans hA2 (by decide)), ?_⟩
  generalize eA2 : (A1 ++ " guests, " : Str) = A2 at hA2 ⊢
  refine wp_jc (wp_fmtI ?_)
  walk_at "go"
  rw [lp]
  have hA3 : (A2 ++ intT p.length).length ≤ 23 := by rw [app_len]; omega
  refine ⟨_, rfl, by omega, _, rfl, line_le (Nat.le_trans hA3 (by decide)), ?_⟩
  generalize eA3 : (A2 ++ intT p.length : Str) = A3 at hA3 ⊢
  refine wp_jc ?_
  walk_at "go"
  have hA4 : (A3 ++ " pairs, served ").length ≤ 38 := by rw [app_len, z3]; omega
  refine ⟨_, rfl, line_le (Nat.le_trans hA4 (by decide)), ?_⟩
  generalize eA4 : (A3 ++ " pairs, served " : Str) = A4 at hA4 ⊢
  refine wp_jc (wp_fmtI ?_)
  walk_at "go"
  have hA5 : (A4 ++ intT kf).length ≤ 45 := by rw [app_len]; omega
  refine ⟨_, rfl, by omega, _, rfl, line_le (Nat.le_trans hA5 (by decide)), ?_⟩
  generalize eA5 : (A4 ++ intT kf : Str) = A5 at hA5 ⊢
  refine wp_jc ?_
  walk_at "go"
  have hA6 : (A5 ++ " to ").length ≤ 49 := by rw [app_len, z4]; omega
  refine ⟨_, rfl, line_le (Nat.le_trans hA6 (by decide)), ?_⟩
  generalize eA6 : (A5 ++ " to " : Str) = A6 at hA6 ⊢
  refine wp_jc (wp_fmtI ?_)
  walk_at "go"
  have hA7 : (A6 ++ intT km).length ≤ 56 := by rw [app_len]; omega
  refine ⟨_, rfl, by omega, _, rfl, line_le (Nat.le_trans hA7 (by decide)), ?_⟩
  generalize eA7 : (A6 ++ intT km : Str) = A7 at hA7 ⊢
  refine wp_jc ?_
  walk_at "go"
  have hA8 : (A7 ++ ", ").length ≤ 58 := by rw [app_len, z5]; omega
  refine ⟨_, rfl, line_le (Nat.le_trans hA8 (by decide)), ?_⟩
  generalize eA8 : (A7 ++ ", " : Str) = A8 at hA8 ⊢
  refine wp_jc (wp_fmtI ?_)
  walk_at "go"
  refine wp_fldL (by walk_at "go"; exact ⟨rfl, rfl⟩) ho lk_standing ?_
  walk_at "go"
  have hA9 : (A8 ++ intT es.length).length ≤ 65 := by rw [app_len]; omega
  refine ⟨_, rfl, by omega, _, rfl, line_le (Nat.le_trans hA9 (by decide)), ?_⟩
  generalize eA9 : (A8 ++ intT es.length : Str) = A9 at hA9 ⊢
  refine wp_jc ?_
  walk_at "go"
  have hA10 : (A9 ++ " edits").length ≤ 71 := by rw [app_len, z6]; omega
  refine ⟨_, rfl, line_le (Nat.le_trans hA10 (by decide)), ?_⟩
  generalize eA10 : (A9 ++ " edits" : Str) = A10 at hA10 ⊢
  refine wp_jn ?_
  refine ⟨line_le (Nat.le_trans hA10 (by decide)), ?_⟩
  walk_at "go"
  refine ⟨?_, rfl⟩
  unfold paT
  rw [eA1, eA2, eA3, eA4, eA5, eA6, eA7, eA8, eA9, eA10]

def EdB : Ed → Prop
  | .come x => 1 ≤ x ∧ x ≤ 1000000
  | .leave i => i < 20
  | .put x => 1 ≤ x ∧ x ≤ 1000000
  | .take i => i < 20
theorem EdOk.b {f p : List Int} {e : Ed} (h : EdOk e f p) (hh : HallOk 20 20 f p) : EdB e := by
  have fl := hh.fl
  have pl := hh.pl
  cases e with
  | come x => exact h.1
  | leave i => exact (by have := h.1; show i < 20; omega)
  | put x => exact h.1
  | take i => exact (by have : i < p.length := h; show i < 20; omega)
theorem sm_w1 : Sm (.str "come") 20 := ⟨rfl, by decide +kernel, by decide +kernel, by decide +kernel, by decide +kernel, by decide +kernel⟩
theorem sm_w2 : Sm (.str "leave") 20 := ⟨rfl, by decide +kernel, by decide +kernel, by decide +kernel, by decide +kernel, by decide +kernel⟩
theorem sm_w3 : Sm (.str "put") 20 := ⟨rfl, by decide +kernel, by decide +kernel, by decide +kernel, by decide +kernel, by decide +kernel⟩
theorem sm_w4 : Sm (.str "take") 20 := ⟨rfl, by decide +kernel, by decide +kernel, by decide +kernel, by decide +kernel, by decide +kernel⟩
theorem str_depth {s : Str} : (D.str s).py.depth = 0 := by simp [D.py, PyData.depth]
theorem int_depth {i : Int} : (D.int i).py.depth = 0 := by simp [D.py, PyData.depth]
theorem sm_si {s : Str} {i : Int} (hs : Sm (.str s) 20) (hi : i.natAbs < 10 ^ 12) : Sm (.tup [.str s, .int i]) 70 ∧ (D.py (.tup [.str s, .int i])).depth ≤ 18 := by
  refine ⟨(sm_tup (sml_cons hs (by rw [str_depth]; omega) (sml_cons (sm_int hi) (by rw [int_depth]; omega) sml_nil))).mono (by omega), ?_⟩
  simp [D.py, D.pyL, PyData.depth, PyData.depthAll]
theorem sm_ed {e : Ed} (h : EdB e) : Sm (encE e) 70 ∧ (encE e).py.depth ≤ 18 := by
  cases e with
  | come x => exact sm_si sm_w1 (by have : 1 ≤ x ∧ x ≤ 1000000 := h; omega)
  | leave i => exact sm_si sm_w2 (by have : i < 20 := h; omega)
  | put x => exact sm_si sm_w3 (by have : 1 ≤ x ∧ x ≤ 1000000 := h; omega)
  | take i => exact sm_si sm_w4 (by have : i < 20 := h; omega)
theorem sml_depth : ∀ {ds : List D} {n : Nat}, (∀ d ∈ ds, d.py.depth ≤ n) → PyData.depthAll (D.pyL ds) ≤ n
  | [], _, _ => by simp [D.pyL, PyData.depthAll]
  | d :: ds, n, h => by
    have := sml_depth (ds := ds) (n := n) fun x hx => h x (List.mem_cons_of_mem _ hx)
    have := h d (List.mem_cons_self ..)
    simp only [D.pyL, PyData.depthAll]
    omega
theorem sm_eds {es : List Ed} (h : ∀ e ∈ es, EdB e) (hl : es.length ≤ 40) : Sm (.tup (es.map encE)) 3000 := by
  have := sml_all (ds := es.map encE) (n := 70) fun d hd => by
    obtain ⟨e, he, rfl⟩ := List.mem_map.mp hd
    exact sm_ed (h e he)
  rw [List.length_map] at this
  exact (sm_tup this).mono (by omega)
theorem eds_depth {es : List Ed} (h : ∀ e ∈ es, EdB e) : (D.py (.tup (es.map encE))).depth ≤ 19 := by
  have := sml_depth (ds := es.map encE) (n := 18) fun d hd => by
    obtain ⟨e, he, rfl⟩ := List.mem_map.mp hd
    exact (sm_ed (h e he)).2
  simp only [D.py, PyData.depth]
  omega
theorem sm_found {f p : List Int} {es : List Ed} {kf km n : Nat} (hh : HallOk 20 20 f p) (h : ∀ e ∈ es, EdB e) (hl : es.length ≤ 40) (k1 : kf ≤ 20) (k2 : km ≤ 20) (hn : n ≤ 100) :
    Sm (.lst [hallD f p, .int (kf : Int), .int (km : Int), hallD f p, .tup (es.map encE), .int (n : Int)]) 20000 := by
  obtain ⟨s1, d1⟩ := sm_hall hh (by omega) (by omega)
  exact (sm_lst (sml_cons s1 (by omega) (sml_cons (sm_int (i := (kf : Int)) (by omega)) (by rw [int_depth]; omega) (sml_cons (sm_int (i := (km : Int)) (by omega)) (by rw [int_depth]; omega) (sml_cons s1 (by omega) (sml_cons (sm_eds h hl) (eds_depth h) (sml_cons (sm_int (i := (n : Int)) (by omega)) (by rw [int_depth]; omega) sml_nil))))))).mono (by omega)
theorem lenBk_ok {n : Nat} {S : Sto} (h : n ≤ 100000) : lenBk (.int (n : Nat)) S = .ok (.int (n : Nat)) S := by
  unfold lenBk
  dsimp only
  rw [if_pos ⟨by omega, by omega⟩]
theorem fAdd_ss {a b : Str} {S : Sto} (h : a.length + b.length ≤ sizeLine) : fAdd (.str a) (.str b) S = .ok (.str (a ++ b)) S := by
  unfold fAdd
  dsimp only
  rw [if_pos h]
theorem eq_right {cl : CLs} {o b : Nat} {S : Sto} {f p : List Int} {es : List Ed} {ss en : List D} {kf km : Nat} (ho : S[o]? = some (paO cl o)) (hs : S[o + 1]? = some (.lst (ss ++ [hallD f p]))) (ht : S[o + 2]? = some (.lst (es.map encE))) (hn : S[o + 3]? = some (.lst (en ++ [.tup [.int kf, .int km]]))) (hb : S[b]? = some (.lst (es.map encE)))
    (hh : HallOk 20 20 f p) (kF : IsFew f p kf) (kM : IsMost f p km) (he : ∀ e ∈ es, EdB e) (le : es.length ≤ 40) : ∃ x, den__law_right cl [.loc o, hallD f p, .loc b] S = .ok (.bl true) (S ++ [x]) := by
  obtain ⟨x, ex⟩ := eq_ends kF kM (by have := hh.fl; omega) (by have := hh.pl; omega) S
  have fl := hh.fl
  have pl := hh.pl
  have k1 : kf ≤ 20 := by
    obtain ⟨s, hs⟩ := above (f ++ p)
    have := kF.all s
    rw [ge_zero fun x hx => hs x (List.mem_append_right _ hx)] at this
    have := lt_len (f := f) (s := s)
    omega
  have k2 : km ≤ 20 := by
    obtain ⟨s, hs⟩ := above (f ++ p)
    have := kM.all s
    rw [ge_zero fun x hx => hs x (List.mem_append_right _ hx)] at this
    have := lt_len (f := f) (s := s)
    omega
  have lf : (List.map D.int f).length = f.length := List.length_map ..
  have lp : (List.map D.int p).length = p.length := List.length_map ..
  have lE : (List.map encE es).length = es.length := List.length_map ..
  have c1 := intT_len (i := f.length) (by omega)
  have c2 := intT_len (i := p.length) (by omega)
  have c3 := intT_len (i := kf) (by omega)
  have c4 := intT_len (i := km) (by omega)
  have c5 := intT_len (i := es.length) (by omega)
  refine ⟨x, Wp.eqn ?_⟩
  have ho := keepS [x] ho
  have hs := keepS [x] hs
  have ht := keepS [x] ht
  have hn := keepS [x] hn
  have hb := keepS [x] hb
  have sm := sm_found (n := es.length) hh he le k1 k2 (by omega)
  have lt : (Txt.join " " [intT f.length, "guests,", intT p.length, "pairs, served", intT kf, "to", intT km ++ ",", intT es.length, "edits"]).length ≤ 100 := by
    rw [← text_eq]
    unfold paT
    simp only [app_len]
    rw [show (Str.empty : Str).length = 0 from rfl, show (" guests, " : Str).length = 9 by decide +kernel, show (" pairs, served " : Str).length = 15 by decide +kernel, show (" to " : Str).length = 4 by decide +kernel, show (", " : Str).length = 2 by decide +kernel, show (" edits" : Str).length = 6 by decide +kernel]
    omega
  have lj : (([intT f.length, "guests,", intT p.length, "pairs, served", intT kf, "to", intT km ++ ",", intT es.length, "edits"] : List Str).map (·.length)).sum + ([intT f.length, "guests,", intT p.length, "pairs, served", intT kf, "to", intT km ++ ",", intT es.length, "edits"] : List Str).length * (" " : Str).length ≤ 16777216 := by
    simp only [List.map_cons, List.map_nil, List.sum_cons, List.sum_nil, List.length_cons, List.length_nil, app_len]
    rw [show ("guests," : Str).length = 7 by decide +kernel, show ("pairs, served" : Str).length = 13 by decide +kernel, show ("to" : Str).length = 2 by decide +kernel, show ("," : Str).length = 1 by decide +kernel, show ("edits" : Str).length = 5 by decide +kernel, show (" " : Str).length = 1 by decide +kernel]
    omega
  have ej : ∀ S2 : Sto, fJoin " " (.lst [.str (intT f.length), .str "guests,", .str (intT p.length), .str "pairs, served", .str (intT kf), .str "to", .str (intT km ++ ","), .str (intT es.length), .str "edits"]) S2 = .ok (.str (paT (intT f.length) (intT p.length) (intT kf) (intT km) (intT es.length))) S2 := fun S2 => Wp.eqn (wp_joinL (ys := [intT f.length, "guests,", intT p.length, "pairs, served", intT kf, "to", intT km ++ ",", intT es.length, "edits"]) lj (line_le (by omega)) ⟨by rw [← text_eq], rfl⟩)
  unfold den__law_right
  walk_at "go"
  refine wp_val_ok ex ?_
  generalize S ++ [x] = S1 at *
  walk_at "go"
  refine wp_prop ?_
  walk_at "go"
  refine ⟨o, _, rfl, ho, wp_val_ok (eq_phall ho hs) ?_⟩
  walk_at "go"
  refine wp_prop ?_
  walk_at "go"
  refine ⟨o, _, rfl, ho, wp_val_ok (eq_pfew ho hn) ?_⟩
  walk_at "go"
  refine wp_prop ?_
  walk_at "go"
  refine ⟨o, _, rfl, ho, wp_val_ok (eq_pmost ho hn) ?_⟩
  walk_at "go"
  refine wp_meth0 ?_
  walk_at "go"
  refine ⟨o, _, rfl, ho, lk_no (by decide +kernel) (by decide +kernel) (by decide +kernel) (by decide +kernel), wp_val_ok (eq_pstate ho hs) ?_⟩
  walk_at "go"
  refine wp_meth0 ?_
  walk_at "go"
  refine ⟨o, _, rfl, ho, lk_no (by decide +kernel) (by decide +kernel) (by decide +kernel) (by decide +kernel), wp_val_ok (eq_pedits ho ht) ?_⟩
  walk_at "go"
  refine wp_own1 ho (wp_val_ok (eq_plen ho ht) ?_)
  rw [lE]
  rw [lenBk_ok (show es.length ≤ 100000 by omega)]
  walk_at "go"
  refine wp_repr sm (by decide) ?_
  walk_at "go"
  rw [fTuple_loc hb]
  walk_at "go"
  rw [lE]
  refine wp_repr sm (by decide) ?_
  walk_at "go"
  rw [lf]
  refine wp_strI (log_fits (by omega)) (line_le (by omega)) ?_
  walk_at "go"
  rw [lp]
  refine wp_strI (log_fits (by omega)) (line_le (by omega)) ?_
  walk_at "go"
  refine wp_strI (log_fits (by omega)) (line_le (by omega)) ?_
  walk_at "go"
  refine wp_strI (log_fits (by omega)) (line_le (by omega)) ?_
  walk_at "go"
  refine wp_val_ok (fAdd_ss (line_le (by rw [show ("," : Str).length = 1 by decide +kernel]; omega))) ?_
  walk_at "go"
  have eS := eq_pstr ho hs ht hn (by omega) (by omega) k1 k2 (by rw [lE]; exact le)
  rw [lE] at eS
  generalize paT (intT f.length) (intT p.length) (intT kf) (intT km) (intT es.length) = T at *
  refine wp_own1 ho (wp_val_ok eS ?_)
  rw [show strBk (.str T) S1 = .ok (.str T) S1 from rfl]
  walk_at "go"
  refine wp_join rfl ?_
  walk_at "go"
  rw [lE]
  refine wp_strI (log_fits (by omega)) (line_le (by omega)) ?_
  walk_at "go"
  refine wp_addL (line_le (show 7 + 2 ≤ 10000 by decide)) ?_
  refine wp_val_ok (ej _) ?_
  walk_at "go"
  exact ⟨by rw [decide_eq_true rfl], rfl⟩

theorem getT {n : Int} {S U L : Sto} {j k : Nat} {x : O} (h : DkS n S (U ++ L)) (hk : k = 2 + (U.length + j)) (e : L[j]? = some x) : S[k]? = some x := by
  subst hk
  exact h.get (by rw [List.getElem?_append_right (by omega), show U.length + j - U.length = j by omega]; exact e)
theorem putT {n : Int} {S U L : Sto} {j k : Nat} {y : O} (h : DkS n S (U ++ L)) (hk : k = 2 + (U.length + j)) (hj : j < L.length) : DkS n (S.set k y) (U ++ L.set j y) := by
  subst hk
  have := h.put (i := U.length + j) (y := y) (by rw [List.length_append]; omega)
  rwa [List.set_append_right _ _ (by omega), show U.length + j - U.length = j by omega] at this
abbrev T5 (cl : CLs) (U : Sto) (es ss st en : List D) : Sto := U ++ [.lst es, paO cl (2 + U.length + 1), .lst ss, .lst st, .lst en]
theorem few_ex (f p : List Int) : ∃ k, IsFew f p k := ⟨_, (few_cF (sortI_sorted f) (rev_sorted (sortI_sorted p))).perm (sortI_perm f) ((List.reverse_perm _).trans (sortI_perm p))⟩
theorem most_ex (f p : List Int) : ∃ k, IsMost f p k := ⟨_, (most_cM (rev_sorted (sortI_sorted f)) (sortI_sorted p)).perm ((List.reverse_perm _).trans (sortI_perm f)) (sortI_perm p)⟩
theorem pick_m {i : Nat} (h : i < 3) : ∃ m : Int, atI [D.int 5, D.int 12, D.int 20] (0 + (i : Int)) = some (.int m) ∧ 1 ≤ m ∧ m ≤ 20 := by
  have hc : i = 0 ∨ i = 1 ∨ i = 2 := by omega
  rcases hc with rfl | rfl | rfl <;> exact ⟨_, rfl, by omega, by omega⟩
theorem HallOk.wide {g m : Int} {f p : List Int} (h : HallOk g m f p) (hg : g ≤ 20) (hm : m ≤ 20) : HallOk 20 20 f p := by
  obtain ⟨a, b, c, d, e⟩ := h
  exact ⟨a, by omega, by omega, d, e⟩
theorem pStep_dk {cl : CLs} {n : Int} {S U : Sto} {es ss st en : List D} {h e : D} {kf km : Nat} (hS : DkS n S (T5 cl U es ss st en)) : DkS n (pStep S (2 + U.length + 1) ss st en h e kf km) (T5 cl U es (ss ++ [h]) (st ++ [e]) (en ++ [.tup [.int kf, .int km]])) := by
  unfold pStep
  have h1 := putT (j := 2) (y := .lst (ss ++ [h])) (k := 2 + U.length + 1 + 1) hS (by omega) (show 2 < 5 by decide)
  have h2 := putT (j := 4) (y := .lst (en ++ [.tup [.int kf, .int km]])) (k := 2 + U.length + 1 + 3) h1 (by omega) (show 4 < 5 by decide)
  exact putT (j := 3) (y := .lst (st ++ [e])) (k := 2 + U.length + 1 + 2) h2 (by omega) (show 3 < 5 by decide)
theorem law_true (cl : CLs) : ∀ ns : List Int, ns.length ≤ 63 → ∃ S, den_law cl [.scr (ns.map .int)] [] = .ok (.bl true) S := by
  intro ns _
  have main : WpE noX (den_law cl [.scr (ns.map .int)] []) fun d _ => d = .bl true := by
    unfold den_law
    walk_at "go"
    refine Wp.imp (sp_deck ns) ?_
    rintro _ S0 ⟨rfl, hS0⟩
    walk_at "go"
    refine for_inv (fun i ρ S => ∃ a2 a3 a4 a5 a6, ρ = [some (.scr (ns.map .int)), some (.loc 1), a2, a3, a4, a5, a6] ∧ DkS (2000 * i) S []) ⟨_, _, _, _, _, rfl, [], by simpa using hS0⟩ ?_ ?_
    · rintro i d ρ S hd ⟨a2, a3, a4, a5, a6, rfl, hS⟩
      obtain ⟨hi, rfl⟩ := rng_at hd
      have hi3 : i < 3 := hi
      refine toN_ok rfl ?_
      walk_at "go"
      obtain ⟨m, em, m1, m2⟩ := pick_m hi3
      refine wp_ix_lst em ?_
      walk_at "go"
      refine Wp.imp (sp_hall hS (by omega) m1 m2) ?_
      rintro _ S1 ⟨f, p, rfl, hh, h1⟩
      have hh := hh.wide m2 m2
      obtain ⟨kf, kF⟩ := few_ex f p
      obtain ⟨km, kM⟩ := most_ex f p
      obtain ⟨U, h1⟩ := h1
      rw [List.nil_append] at h1
      have hl := h1.len
      walk_at "go"
      refine wp_party (S := S1 ++ [.lst []]) hh kF kM (by walk_at "go"; exact ⟨rfl, rfl⟩) ?_
      have hE : DkS (2000 * i + 50) (S1 ++ [.lst []] ++ paO cl (S1 ++ [O.lst []]).length :: [.lst [hallD f p], .lst [], .lst [.tup [.int kf, .int km]]]) (T5 cl U [] ([] ++ [hallD f p]) [] ([] ++ [.tup [.int kf, .int km]])) := by
        have z := ((((h1.app (x := .lst [])).app (x := paO cl (2 + U.length + 1))).app (x := .lst [hallD f p])).app (x := .lst [])).app (x := .lst [.tup [.int kf, .int km]])
        refine ⟨[], ?_⟩
        rw [show (S1 ++ [O.lst []]).length = 2 + U.length + 1 by rw [List.length_append, hl]; rfl]
        simpa [T5] using z
      rw [show (S1 ++ [O.lst []]).length = 2 + U.length + 1 by rw [List.length_append, hl]; rfl] at hE ⊢
      rw [hl]
      generalize S1 ++ [.lst []] ++ paO cl (2 + U.length + 1) :: [.lst [hallD f p], .lst [], .lst [.tup [.int kf, .int km]]] = S2 at hE ⊢
      walk_at "go"
      refine Wp.imp (sp_draw hE (by omega) (by omega) (by omega)) ?_
      rintro _ S3 ⟨r, rfl, r0, r1, h3⟩
      walk_at "go"
      refine for_inv (fun j ρ S => ∃ (f p : List Int) (kf km : Nat) (es : List Ed) (ss en : List D) (a6 : Option D), ρ = [some (.scr (ns.map .int)), some (.loc 1), some (.int (0 + (i : Int))), some (hallD f p), some (.loc (2 + U.length)), some (.loc (2 + U.length + 1)), a6] ∧
        HallOk 20 20 f p ∧ IsFew f p kf ∧ IsMost f p km ∧ (∀ e ∈ es, EdB e) ∧ es.length = j ∧ ss.length = j ∧ en.length = j ∧ DkS (2000 * i + 60 + 10 * j) S (T5 cl U (es.map encE) (ss ++ [hallD f p]) (es.map encE) (en ++ [.tup [.int kf, .int km]]))) ⟨f, p, kf, km, [], [], [], _, rfl, hh, kF, kM, fun e z => (by cases z), rfl, rfl, rfl, h3.mono (by omega)⟩ ?_ ?_
      · rintro j d ρ S hd ⟨f, p, kf, km, es, ss, en, a6, rfl, hh, kF, kM, hes, le, ls, ln, h⟩
        obtain ⟨hj, rfl⟩ := rng_at hd
        have hj18 : j < 18 := by omega
        refine toN_ok rfl ?_
        have g0 := getT (j := 0) (k := 2 + U.length) h (by omega) rfl
        walk_at "go"
        refine Wp.imp (sp_edit h (by omega) hh) ?_
        rintro _ S4 ⟨e, rfl, he, h4⟩
        walk_at "go"
        refine wp_append (getT (j := 0) h4 (by omega) rfl) (line_lt (by rw [List.length_map]; omega)) ?_
        have h5 := putT (j := 0) (y := .lst (es.map encE ++ [encE e])) (k := 2 + U.length) h4 (by omega) (show 0 < 5 by decide)
        generalize S4.set (2 + U.length) (.lst (es.map encE ++ [encE e])) = S5 at h5 ⊢
        have h5 : DkS _ S5 (T5 cl U (es.map encE ++ [encE e]) (ss ++ [hallD f p]) (es.map encE) (en ++ [.tup [.int kf, .int km]])) := h5
        have gb := getT (j := 0) (k := 2 + U.length) h5 (by omega) rfl
        walk_at "go"
        refine wp_ix_loc gb atI_last ?_
        walk_at "go"
        have fl := hh.fl
        have pl := hh.pl
        refine wp_val_ok (eq_after (by omega) (by omega) _) ?_
        walk_at "go"
        refine wp_ix_loc gb atI_last ?_
        walk_at "go"
        obtain ⟨kf', kF'⟩ := few_ex (aftF e f) (aftP e p)
        obtain ⟨km', kM'⟩ := most_ex (aftF e f) (aftP e p)
        have go := getT (j := 1) (k := 2 + U.length + 1) h5 (by omega) rfl
        have gs := getT (j := 2) (k := 2 + U.length + 1 + 1) h5 (by omega) rfl
        have gt := getT (j := 3) (k := 2 + U.length + 1 + 2) h5 (by omega) rfl
        have gn := getT (j := 4) (k := 2 + U.length + 1 + 3) h5 (by omega) rfl
        have hp := eq_perform go gs gt gn hh he (by omega) (by rw [List.length_map]; omega) (by rw [List.length_append]; show en.length + 1 ≤ 50; omega) kF' kM'
        have h6 := pStep_dk (h := hallD (aftF e f) (aftP e p)) (e := encE e) (kf := kf') (km := km') h5
        refine wp_val_ok (eq_do go hp) ?_
        generalize pStep S5 (2 + U.length + 1) (ss ++ [hallD f p]) (es.map encE) (en ++ [.tup [.int kf, .int km]]) (hallD (aftF e f) (aftP e p)) (encE e) kf' km' = S6 at h6 ⊢
        have la : (List.map encE es).length = es.length := List.length_map ..
        have lb : (List.map encE (es ++ [e])).length = es.length + 1 := by rw [List.length_map, List.length_append]; rfl
        rw [show List.map encE es ++ [encE e] = (es ++ [e]).map encE by rw [List.map_append]; rfl] at h6
        have hes2 : ∀ x ∈ es ++ [e], EdB x := fun x hx => by
          rcases List.mem_append.mp hx with z | z
          · exact hes x z
          · rw [List.mem_singleton.mp z]; exact he.b hh
        have gb6 := getT (j := 0) (k := 2 + U.length) h6 (by omega) rfl
        have go6 := getT (j := 1) (k := 2 + U.length + 1) h6 (by omega) rfl
        have gs6 := getT (j := 2) (k := 2 + U.length + 1 + 1) h6 (by omega) rfl
        have gt6 := getT (j := 3) (k := 2 + U.length + 1 + 2) h6 (by omega) rfl
        have gn6 := getT (j := 4) (k := 2 + U.length + 1 + 3) h6 (by omega) rfl
        rw [la]
        walk_at "go"
        refine wp_repr (sm_int (by omega)) (by decide) ?_
        walk_at "go"
        rw [lb]
        refine wp_repr (sm_int (by omega)) (by decide) ?_
        walk_at "go"
        obtain ⟨x, ex⟩ := eq_right go6 gs6 gt6 gn6 gb6 (hh.aft he) kF' kM' hes2 (by rw [List.length_append]; show es.length + 1 ≤ 40; omega)
        refine wp_val_ok ex ?_
        walk_at "go"
        exact ⟨aftF e f, aftP e p, kf', km', es ++ [e], ss ++ [hallD f p], en ++ [.tup [.int kf, .int km]], _, rfl, hh.aft he, kF', kM', hes2, by rw [List.length_append, le]; rfl, by rw [List.length_append, ls]; rfl, by rw [List.length_append, ln]; rfl, h6.more.mono (by omega)⟩
      · rintro ρ S ⟨f, p, kf, km, es, ss, en, a6, rfl, hh, kF, kM, hes, le, ls, ln, h⟩
        rw [rng_len] at h
        walk_at "go"
        refine ⟨_, _, _, _, _, rfl, ?_⟩
        obtain ⟨V, hV⟩ := h
        exact ⟨T5 cl U (es.map encE) (ss ++ [hallD f p]) (es.map encE) (en ++ [.tup [.int kf, .int km]]) ++ V, hV.mono (by omega)⟩
    · rintro ρ S ⟨a2, a3, a4, a5, a6, rfl, hS⟩
      walk_at "go"
      rfl
  obtain ⟨d, S', e, rfl⟩ := Wp.ex main
  exact ⟨S', e⟩
noncomputable def ca (mg : Str → Option Value) (x : Str) : Addr := match mg x with
  | some (.ref a) => a
  | _ => 0
theorem ca_of {mg : Str → Option Value} {x : Str} {a : Addr} (e : mg x = some (.ref a)) : ca mg x = a := by
  unfold ca
  rw [e]
noncomputable def clOf (mg : Str → Option Value) : CLs := ⟨ca mg "Party"⟩
theorem all7 {f : String → Prop} (h1 : f "NoneType") (h2 : f "bool") (h3 : f "int") (h4 : f "str") (h5 : f "tuple") (h6 : f "list") (h7 : f "dict") : ∀ t ∈ baseTys, f t := by
  intro t ht
  simp only [baseTys, List.mem_cons, List.not_mem_nil, or_false] at ht
  rcases ht with rfl | rfl | rfl | rfl | rfl | rfl | rfl <;> assumption
theorem all_mk {l : PySem.W.OpenLaw} {w : World} {K : PySem.W.Frag} {h : Heap} {mg : Str → Option Value} {fa : Addr} (X : K.In h) (G : h.Ns mainGlobals mg) (hfa : mg "law" = some (.ref fa))
    {A_Party : Addr} (x_Party : PySem.W.nsIn K mainGlobals "Party" = some (some (.ref A_Party)))
    {kD_Party_state : Addr}
    {oc_is_number kV_is_number dc_is_number pm_is_number cd_is_number ct_is_number : Value} {p_is_number : Addr} {od_is_number an_is_number : Option Addr} {sl_is_number : Array (Option Value)}
    {oc_is_size kV_is_size dc_is_size pm_is_size cd_is_size ct_is_size : Value} {p_is_size : Addr} {od_is_size an_is_size : Option Addr} {sl_is_size : Array (Option Value)}
    {oc_first_wrong kV_first_wrong dc_first_wrong pm_first_wrong cd_first_wrong ct_first_wrong : Value} {p_first_wrong : Addr} {od_first_wrong an_first_wrong : Option Addr} {sl_first_wrong : Array (Option Value)}
    {oc_hall_error kV_hall_error dc_hall_error pm_hall_error cd_hall_error ct_hall_error : Value} {p_hall_error : Addr} {od_hall_error an_hall_error : Option Addr} {sl_hall_error : Array (Option Value)}
    {oc_counts_at kV_counts_at dc_counts_at pm_counts_at cd_counts_at ct_counts_at : Value} {p_counts_at : Addr} {od_counts_at an_counts_at : Option Addr} {sl_counts_at : Array (Option Value)}
    {oc_sizes_to_try kV_sizes_to_try dc_sizes_to_try pm_sizes_to_try cd_sizes_to_try ct_sizes_to_try : Value} {p_sizes_to_try : Addr} {od_sizes_to_try an_sizes_to_try : Option Addr} {sl_sizes_to_try : Array (Option Value)}
    {oc_most_served kV_most_served dc_most_served pm_most_served cd_most_served ct_most_served : Value} {p_most_served : Addr} {od_most_served an_most_served : Option Addr} {sl_most_served : Array (Option Value)}
    {oc_fewest_served kV_fewest_served dc_fewest_served pm_fewest_served cd_fewest_served ct_fewest_served : Value} {p_fewest_served : Addr} {od_fewest_served an_fewest_served : Option Addr} {sl_fewest_served : Array (Option Value)}
    {oc_is_within kV_is_within dc_is_within pm_is_within cd_is_within ct_is_within : Value} {p_is_within : Addr} {od_is_within an_is_within : Option Addr} {sl_is_within : Array (Option Value)}
    {oc_with_guest kV_with_guest dc_with_guest pm_with_guest cd_with_guest ct_with_guest : Value} {p_with_guest : Addr} {od_with_guest an_with_guest : Option Addr} {sl_with_guest : Array (Option Value)}
    {oc_without_guest kV_without_guest dc_without_guest pm_without_guest cd_without_guest ct_without_guest : Value} {p_without_guest : Addr} {od_without_guest an_without_guest : Option Addr} {sl_without_guest : Array (Option Value)}
    {oc_with_pair kV_with_pair dc_with_pair pm_with_pair cd_with_pair ct_with_pair : Value} {p_with_pair : Addr} {od_with_pair an_with_pair : Option Addr} {sl_with_pair : Array (Option Value)}
    {oc_without_pair kV_without_pair dc_without_pair pm_without_pair cd_without_pair ct_without_pair : Value} {p_without_pair : Addr} {od_without_pair an_without_pair : Option Addr} {sl_without_pair : Array (Option Value)}
    {oc_Party___init__ kV_Party___init__ dc_Party___init__ pm_Party___init__ cd_Party___init__ ct_Party___init__ : Value} {p_Party___init__ : Addr} {od_Party___init__ an_Party___init__ : Option Addr} {sl_Party___init__ : Array (Option Value)}
    {oc_Party_hall kV_Party_hall dc_Party_hall pm_Party_hall cd_Party_hall ct_Party_hall : Value} {p_Party_hall : Addr} {od_Party_hall an_Party_hall : Option Addr} {sl_Party_hall : Array (Option Value)}
    {oc_Party_most kV_Party_most dc_Party_most pm_Party_most cd_Party_most ct_Party_most : Value} {p_Party_most : Addr} {od_Party_most an_Party_most : Option Addr} {sl_Party_most : Array (Option Value)}
    {oc_Party_fewest kV_Party_fewest dc_Party_fewest pm_Party_fewest cd_Party_fewest ct_Party_fewest : Value} {p_Party_fewest : Addr} {od_Party_fewest an_Party_fewest : Option Addr} {sl_Party_fewest : Array (Option Value)}
    {oc_Party_accept kV_Party_accept dc_Party_accept pm_Party_accept cd_Party_accept ct_Party_accept : Value} {p_Party_accept : Addr} {od_Party_accept an_Party_accept : Option Addr} {sl_Party_accept : Array (Option Value)}
    {oc_Party___len__ kV_Party___len__ dc_Party___len__ pm_Party___len__ cd_Party___len__ ct_Party___len__ : Value} {p_Party___len__ : Addr} {od_Party___len__ an_Party___len__ : Option Addr} {sl_Party___len__ : Array (Option Value)}
    {oc_Party___str__ kV_Party___str__ dc_Party___str__ pm_Party___str__ cd_Party___str__ ct_Party___str__ : Value} {p_Party___str__ : Addr} {od_Party___str__ an_Party___str__ : Option Addr} {sl_Party___str__ : Array (Option Value)}
    {oc_Party_require_idle kV_Party_require_idle dc_Party_require_idle pm_Party_require_idle cd_Party_require_idle ct_Party_require_idle : Value} {p_Party_require_idle : Addr} {od_Party_require_idle an_Party_require_idle : Option Addr} {sl_Party_require_idle : Array (Option Value)}
    {oc_Party_state_after kV_Party_state_after dc_Party_state_after pm_Party_state_after cd_Party_state_after ct_Party_state_after : Value} {p_Party_state_after : Addr} {od_Party_state_after an_Party_state_after : Option Addr} {sl_Party_state_after : Array (Option Value)}
    {oc_Party_perform kV_Party_perform dc_Party_perform pm_Party_perform cd_Party_perform ct_Party_perform : Value} {p_Party_perform : Addr} {od_Party_perform an_Party_perform : Option Addr} {sl_Party_perform : Array (Option Value)}
    {oc_Party_come kV_Party_come dc_Party_come pm_Party_come cd_Party_come ct_Party_come : Value} {p_Party_come : Addr} {od_Party_come an_Party_come : Option Addr} {sl_Party_come : Array (Option Value)}
    {oc_Party_leave kV_Party_leave dc_Party_leave pm_Party_leave cd_Party_leave ct_Party_leave : Value} {p_Party_leave : Addr} {od_Party_leave an_Party_leave : Option Addr} {sl_Party_leave : Array (Option Value)}
    {oc_Party_put kV_Party_put dc_Party_put pm_Party_put cd_Party_put ct_Party_put : Value} {p_Party_put : Addr} {od_Party_put an_Party_put : Option Addr} {sl_Party_put : Array (Option Value)}
    {oc_Party_take kV_Party_take dc_Party_take pm_Party_take cd_Party_take ct_Party_take : Value} {p_Party_take : Addr} {od_Party_take an_Party_take : Option Addr} {sl_Party_take : Array (Option Value)}
    {oc_Party_hall_at kV_Party_hall_at dc_Party_hall_at pm_Party_hall_at cd_Party_hall_at ct_Party_hall_at : Value} {p_Party_hall_at : Addr} {od_Party_hall_at an_Party_hall_at : Option Addr} {sl_Party_hall_at : Array (Option Value)}
    {oc_Party_state dc_Party_state pm_Party_state cd_Party_state ct_Party_state : Value} {p_Party_state : Addr} {od_Party_state an_Party_state : Option Addr} {sl_Party_state : Array (Option Value)}
    {oc_Party_edits kV_Party_edits dc_Party_edits pm_Party_edits cd_Party_edits ct_Party_edits : Value} {p_Party_edits : Addr} {od_Party_edits an_Party_edits : Option Addr} {sl_Party_edits : Array (Option Value)}
    {oc__law_deck kV__law_deck dc__law_deck pm__law_deck cd__law_deck ct__law_deck : Value} {p__law_deck : Addr} {od__law_deck an__law_deck : Option Addr} {sl__law_deck : Array (Option Value)}
    {oc__law_draw kV__law_draw dc__law_draw pm__law_draw cd__law_draw ct__law_draw : Value} {p__law_draw : Addr} {od__law_draw an__law_draw : Option Addr} {sl__law_draw : Array (Option Value)}
    {oc__law_sizes kV__law_sizes dc__law_sizes pm__law_sizes cd__law_sizes ct__law_sizes : Value} {p__law_sizes : Addr} {od__law_sizes an__law_sizes : Option Addr} {sl__law_sizes : Array (Option Value)}
    {oc__law_hall kV__law_hall dc__law_hall pm__law_hall cd__law_hall ct__law_hall : Value} {p__law_hall : Addr} {od__law_hall an__law_hall : Option Addr} {sl__law_hall : Array (Option Value)}
    {oc__law_ends kV__law_ends dc__law_ends pm__law_ends cd__law_ends ct__law_ends : Value} {p__law_ends : Addr} {od__law_ends an__law_ends : Option Addr} {sl__law_ends : Array (Option Value)}
    {oc__law_after kV__law_after dc__law_after pm__law_after cd__law_after ct__law_after : Value} {p__law_after : Addr} {od__law_after an__law_after : Option Addr} {sl__law_after : Array (Option Value)}
    {oc__law_edit kV__law_edit dc__law_edit pm__law_edit cd__law_edit ct__law_edit : Value} {p__law_edit : Addr} {od__law_edit an__law_edit : Option Addr} {sl__law_edit : Array (Option Value)}
    {oc__law_do kV__law_do dc__law_do pm__law_do cd__law_do ct__law_do : Value} {p__law_do : Addr} {od__law_do an__law_do : Option Addr} {sl__law_do : Array (Option Value)}
    {oc__law_right kV__law_right dc__law_right pm__law_right cd__law_right ct__law_right : Value} {p__law_right : Addr} {od__law_right an__law_right : Option Addr} {sl__law_right : Array (Option Value)}
    {oc_law kV_law dc_law pm_law cd_law ct_law : Value} {p_law : Addr} {od_law an_law : Option Addr} {sl_law : Array (Option Value)}
    {q_Party_fewest : Addr} {rs_Party_fewest : List Value}
    {q_Party_hall : Addr} {rs_Party_hall : List Value}
    {q_Party_most : Addr} {rs_Party_most : List Value}
    (h_c_Party_pg : PySem.W.plainGet K A_Party Str.empty = true)
    (h_c_Party_hd : PySem.W.hasDictIn K A_Party = true)
    (h_c_Party_po : PySem.W.plainOver K A_Party = true)
    (h_c_Party_sa : PySem.W.findIn K (.ref A_Party) "__setattr__" = some (some (.builtin "object.__setattr__")))
    (h_k_Party_mk : PySem.W.makesIn K A_Party = true)
    (h_k_Party_fi : PySem.W.findIn K (.ref A_Party) "__init__" = some (some (.ref p_Party___init__)))
    (h_k_Party_fn : PySem.W.isFn K (.ref p_Party___init__) = true)
    (h_k_Party_kp : PySem.W.keepIn K (.ref A_Party) = true)
    (h_me_Party___len___fi : PySem.W.findIn K (.ref A_Party) "__len__" = some (some (.ref p_Party___len__)))
    (h_me_Party___len___fn : PySem.W.isFn K (.ref p_Party___len__) = true)
    (h_me_Party___len___kp : PySem.W.keepIn K (.ref p_Party___len__) = true)
    (h_me_Party___str___fi : PySem.W.findIn K (.ref A_Party) "__str__" = some (some (.ref p_Party___str__)))
    (h_me_Party___str___fn : PySem.W.isFn K (.ref p_Party___str__) = true)
    (h_me_Party___str___kp : PySem.W.keepIn K (.ref p_Party___str__) = true)
    (h_me_Party_accept_fi : PySem.W.findIn K (.ref A_Party) "accept" = some (some (.ref p_Party_accept)))
    (h_me_Party_accept_fn : PySem.W.isFn K (.ref p_Party_accept) = true)
    (h_me_Party_accept_kp : PySem.W.keepIn K (.ref p_Party_accept) = true)
    (h_me_Party_come_fi : PySem.W.findIn K (.ref A_Party) "come" = some (some (.ref p_Party_come)))
    (h_me_Party_come_fn : PySem.W.isFn K (.ref p_Party_come) = true)
    (h_me_Party_come_kp : PySem.W.keepIn K (.ref p_Party_come) = true)
    (h_me_Party_edits_fi : PySem.W.findIn K (.ref A_Party) "edits" = some (some (.ref p_Party_edits)))
    (h_me_Party_edits_fn : PySem.W.isFn K (.ref p_Party_edits) = true)
    (h_me_Party_edits_kp : PySem.W.keepIn K (.ref p_Party_edits) = true)
    (h_me_Party_hall_at_fi : PySem.W.findIn K (.ref A_Party) "hall_at" = some (some (.ref p_Party_hall_at)))
    (h_me_Party_hall_at_fn : PySem.W.isFn K (.ref p_Party_hall_at) = true)
    (h_me_Party_hall_at_kp : PySem.W.keepIn K (.ref p_Party_hall_at) = true)
    (h_me_Party_leave_fi : PySem.W.findIn K (.ref A_Party) "leave" = some (some (.ref p_Party_leave)))
    (h_me_Party_leave_fn : PySem.W.isFn K (.ref p_Party_leave) = true)
    (h_me_Party_leave_kp : PySem.W.keepIn K (.ref p_Party_leave) = true)
    (h_me_Party_perform_fi : PySem.W.findIn K (.ref A_Party) "perform" = some (some (.ref p_Party_perform)))
    (h_me_Party_perform_fn : PySem.W.isFn K (.ref p_Party_perform) = true)
    (h_me_Party_perform_kp : PySem.W.keepIn K (.ref p_Party_perform) = true)
    (h_me_Party_put_fi : PySem.W.findIn K (.ref A_Party) "put" = some (some (.ref p_Party_put)))
    (h_me_Party_put_fn : PySem.W.isFn K (.ref p_Party_put) = true)
    (h_me_Party_put_kp : PySem.W.keepIn K (.ref p_Party_put) = true)
    (h_me_Party_require_idle_fi : PySem.W.findIn K (.ref A_Party) "require_idle" = some (some (.ref p_Party_require_idle)))
    (h_me_Party_require_idle_fn : PySem.W.isFn K (.ref p_Party_require_idle) = true)
    (h_me_Party_require_idle_kp : PySem.W.keepIn K (.ref p_Party_require_idle) = true)
    (h_me_Party_state_fi : PySem.W.findIn K (.ref A_Party) "state" = some (some (.ref p_Party_state)))
    (h_me_Party_state_fn : PySem.W.isFn K (.ref p_Party_state) = true)
    (h_me_Party_state_kp : PySem.W.keepIn K (.ref p_Party_state) = true)
    (h_me_Party_state_after_fi : PySem.W.findIn K (.ref A_Party) "state_after" = some (some (.ref p_Party_state_after)))
    (h_me_Party_state_after_fn : PySem.W.isFn K (.ref p_Party_state_after) = true)
    (h_me_Party_state_after_kp : PySem.W.keepIn K (.ref p_Party_state_after) = true)
    (h_me_Party_take_fi : PySem.W.findIn K (.ref A_Party) "take" = some (some (.ref p_Party_take)))
    (h_me_Party_take_fn : PySem.W.isFn K (.ref p_Party_take) = true)
    (h_me_Party_take_kp : PySem.W.keepIn K (.ref p_Party_take) = true)
    (h_p_Party_fewest_at : PySem.W.findIn K (.ref A_Party) "fewest" = some (some (.ref q_Party_fewest)))
    (h_p_Party_fewest_ge : PySem.W.specialIn K (.ref q_Party_fewest) "__get__" = some (some (.builtin "property.__get__")))
    (h_p_Party_fewest_tk : PySem.W.takesIn K (.ref q_Party_fewest) = some true)
    (h_p_Party_fewest_rc : PySem.W.recIn K q_Party_fewest "property" = some (.ref p_Party_fewest :: rs_Party_fewest))
    (h_p_Party_hall_at : PySem.W.findIn K (.ref A_Party) "hall" = some (some (.ref q_Party_hall)))
    (h_p_Party_hall_ge : PySem.W.specialIn K (.ref q_Party_hall) "__get__" = some (some (.builtin "property.__get__")))
    (h_p_Party_hall_tk : PySem.W.takesIn K (.ref q_Party_hall) = some true)
    (h_p_Party_hall_rc : PySem.W.recIn K q_Party_hall "property" = some (.ref p_Party_hall :: rs_Party_hall))
    (h_p_Party_most_at : PySem.W.findIn K (.ref A_Party) "most" = some (some (.ref q_Party_most)))
    (h_p_Party_most_ge : PySem.W.specialIn K (.ref q_Party_most) "__get__" = some (some (.builtin "property.__get__")))
    (h_p_Party_most_tk : PySem.W.takesIn K (.ref q_Party_most) = some true)
    (h_p_Party_most_rc : PySem.W.recIn K q_Party_most "property" = some (.ref p_Party_most :: rs_Party_most))
    (h_n_Party_ends_na : PySem.W.findIn K (.ref A_Party) "ends" = some none)
    (h_n_Party_standing_na : PySem.W.findIn K (.ref A_Party) "standing" = some none)
    (h_n_Party_states_na : PySem.W.findIn K (.ref A_Party) "states" = some none)
    (h_n_Party_watching_na : PySem.W.findIn K (.ref A_Party) "watching" = some none)
    (x_is_number : PySem.W.nsIn K mainGlobals "is_number" = some (some (.ref p_is_number))) (l_is_number : K.lookup p_is_number = some ⟨oc_is_number, od_is_number, .func (PySem.W.fnOf "is_number" "is_number" (defArgs st_is_number) (defBody st_is_number) (defScope st_is_number) .none kV_is_number dc_is_number pm_is_number an_is_number cd_is_number ct_is_number), sl_is_number⟩) (c_is_number : PySem.W.codeIn K cd_is_number "is_number" = true) (k_is_number : PySem.W.keepIn K (.ref p_is_number) = true)
    (x_is_size : PySem.W.nsIn K mainGlobals "is_size" = some (some (.ref p_is_size))) (l_is_size : K.lookup p_is_size = some ⟨oc_is_size, od_is_size, .func (PySem.W.fnOf "is_size" "is_size" (defArgs st_is_size) (defBody st_is_size) (defScope st_is_size) .none kV_is_size dc_is_size pm_is_size an_is_size cd_is_size ct_is_size), sl_is_size⟩) (c_is_size : PySem.W.codeIn K cd_is_size "is_size" = true) (k_is_size : PySem.W.keepIn K (.ref p_is_size) = true)
    (x_first_wrong : PySem.W.nsIn K mainGlobals "first_wrong" = some (some (.ref p_first_wrong))) (l_first_wrong : K.lookup p_first_wrong = some ⟨oc_first_wrong, od_first_wrong, .func (PySem.W.fnOf "first_wrong" "first_wrong" (defArgs st_first_wrong) (defBody st_first_wrong) (defScope st_first_wrong) .none kV_first_wrong dc_first_wrong pm_first_wrong an_first_wrong cd_first_wrong ct_first_wrong), sl_first_wrong⟩) (c_first_wrong : PySem.W.codeIn K cd_first_wrong "first_wrong" = true) (k_first_wrong : PySem.W.keepIn K (.ref p_first_wrong) = true)
    (x_hall_error : PySem.W.nsIn K mainGlobals "hall_error" = some (some (.ref p_hall_error))) (l_hall_error : K.lookup p_hall_error = some ⟨oc_hall_error, od_hall_error, .func (PySem.W.fnOf "hall_error" "hall_error" (defArgs st_hall_error) (defBody st_hall_error) (defScope st_hall_error) .none kV_hall_error dc_hall_error pm_hall_error an_hall_error cd_hall_error ct_hall_error), sl_hall_error⟩) (c_hall_error : PySem.W.codeIn K cd_hall_error "hall_error" = true) (k_hall_error : PySem.W.keepIn K (.ref p_hall_error) = true)
    (x_counts_at : PySem.W.nsIn K mainGlobals "counts_at" = some (some (.ref p_counts_at))) (l_counts_at : K.lookup p_counts_at = some ⟨oc_counts_at, od_counts_at, .func (PySem.W.fnOf "counts_at" "counts_at" (defArgs st_counts_at) (defBody st_counts_at) (defScope st_counts_at) .none kV_counts_at dc_counts_at pm_counts_at an_counts_at cd_counts_at ct_counts_at), sl_counts_at⟩) (c_counts_at : PySem.W.codeIn K cd_counts_at "counts_at" = true) (k_counts_at : PySem.W.keepIn K (.ref p_counts_at) = true)
    (x_sizes_to_try : PySem.W.nsIn K mainGlobals "sizes_to_try" = some (some (.ref p_sizes_to_try))) (l_sizes_to_try : K.lookup p_sizes_to_try = some ⟨oc_sizes_to_try, od_sizes_to_try, .func (PySem.W.fnOf "sizes_to_try" "sizes_to_try" (defArgs st_sizes_to_try) (defBody st_sizes_to_try) (defScope st_sizes_to_try) .none kV_sizes_to_try dc_sizes_to_try pm_sizes_to_try an_sizes_to_try cd_sizes_to_try ct_sizes_to_try), sl_sizes_to_try⟩) (c_sizes_to_try : PySem.W.codeIn K cd_sizes_to_try "sizes_to_try" = true) (k_sizes_to_try : PySem.W.keepIn K (.ref p_sizes_to_try) = true)
    (x_most_served : PySem.W.nsIn K mainGlobals "most_served" = some (some (.ref p_most_served))) (l_most_served : K.lookup p_most_served = some ⟨oc_most_served, od_most_served, .func (PySem.W.fnOf "most_served" "most_served" (defArgs st_most_served) (defBody st_most_served) (defScope st_most_served) .none kV_most_served dc_most_served pm_most_served an_most_served cd_most_served ct_most_served), sl_most_served⟩) (c_most_served : PySem.W.codeIn K cd_most_served "most_served" = true) (k_most_served : PySem.W.keepIn K (.ref p_most_served) = true)
    (x_fewest_served : PySem.W.nsIn K mainGlobals "fewest_served" = some (some (.ref p_fewest_served))) (l_fewest_served : K.lookup p_fewest_served = some ⟨oc_fewest_served, od_fewest_served, .func (PySem.W.fnOf "fewest_served" "fewest_served" (defArgs st_fewest_served) (defBody st_fewest_served) (defScope st_fewest_served) .none kV_fewest_served dc_fewest_served pm_fewest_served an_fewest_served cd_fewest_served ct_fewest_served), sl_fewest_served⟩) (c_fewest_served : PySem.W.codeIn K cd_fewest_served "fewest_served" = true) (k_fewest_served : PySem.W.keepIn K (.ref p_fewest_served) = true)
    (x_is_within : PySem.W.nsIn K mainGlobals "is_within" = some (some (.ref p_is_within))) (l_is_within : K.lookup p_is_within = some ⟨oc_is_within, od_is_within, .func (PySem.W.fnOf "is_within" "is_within" (defArgs st_is_within) (defBody st_is_within) (defScope st_is_within) .none kV_is_within dc_is_within pm_is_within an_is_within cd_is_within ct_is_within), sl_is_within⟩) (c_is_within : PySem.W.codeIn K cd_is_within "is_within" = true) (k_is_within : PySem.W.keepIn K (.ref p_is_within) = true)
    (x_with_guest : PySem.W.nsIn K mainGlobals "with_guest" = some (some (.ref p_with_guest))) (l_with_guest : K.lookup p_with_guest = some ⟨oc_with_guest, od_with_guest, .func (PySem.W.fnOf "with_guest" "with_guest" (defArgs st_with_guest) (defBody st_with_guest) (defScope st_with_guest) .none kV_with_guest dc_with_guest pm_with_guest an_with_guest cd_with_guest ct_with_guest), sl_with_guest⟩) (c_with_guest : PySem.W.codeIn K cd_with_guest "with_guest" = true) (k_with_guest : PySem.W.keepIn K (.ref p_with_guest) = true)
    (x_without_guest : PySem.W.nsIn K mainGlobals "without_guest" = some (some (.ref p_without_guest))) (l_without_guest : K.lookup p_without_guest = some ⟨oc_without_guest, od_without_guest, .func (PySem.W.fnOf "without_guest" "without_guest" (defArgs st_without_guest) (defBody st_without_guest) (defScope st_without_guest) .none kV_without_guest dc_without_guest pm_without_guest an_without_guest cd_without_guest ct_without_guest), sl_without_guest⟩) (c_without_guest : PySem.W.codeIn K cd_without_guest "without_guest" = true) (k_without_guest : PySem.W.keepIn K (.ref p_without_guest) = true)
    (x_with_pair : PySem.W.nsIn K mainGlobals "with_pair" = some (some (.ref p_with_pair))) (l_with_pair : K.lookup p_with_pair = some ⟨oc_with_pair, od_with_pair, .func (PySem.W.fnOf "with_pair" "with_pair" (defArgs st_with_pair) (defBody st_with_pair) (defScope st_with_pair) .none kV_with_pair dc_with_pair pm_with_pair an_with_pair cd_with_pair ct_with_pair), sl_with_pair⟩) (c_with_pair : PySem.W.codeIn K cd_with_pair "with_pair" = true) (k_with_pair : PySem.W.keepIn K (.ref p_with_pair) = true)
    (x_without_pair : PySem.W.nsIn K mainGlobals "without_pair" = some (some (.ref p_without_pair))) (l_without_pair : K.lookup p_without_pair = some ⟨oc_without_pair, od_without_pair, .func (PySem.W.fnOf "without_pair" "without_pair" (defArgs st_without_pair) (defBody st_without_pair) (defScope st_without_pair) .none kV_without_pair dc_without_pair pm_without_pair an_without_pair cd_without_pair ct_without_pair), sl_without_pair⟩) (c_without_pair : PySem.W.codeIn K cd_without_pair "without_pair" = true) (k_without_pair : PySem.W.keepIn K (.ref p_without_pair) = true)
    (l_Party___init__ : K.lookup p_Party___init__ = some ⟨oc_Party___init__, od_Party___init__, .func (PySem.W.fnOf "__init__" "Party.__init__" (defArgs st_Party___init__) (defBody st_Party___init__) (defScope st_Party___init__) .none kV_Party___init__ dc_Party___init__ pm_Party___init__ an_Party___init__ cd_Party___init__ ct_Party___init__), sl_Party___init__⟩) (c_Party___init__ : PySem.W.codeIn K cd_Party___init__ "Party.__init__" = true) (k_Party___init__ : PySem.W.keepIn K (.ref p_Party___init__) = true)
    (l_Party_hall : K.lookup p_Party_hall = some ⟨oc_Party_hall, od_Party_hall, .func (PySem.W.fnOf "hall" "Party.hall" (defArgs st_Party_hall) (defBody st_Party_hall) (defScope st_Party_hall) .none kV_Party_hall dc_Party_hall pm_Party_hall an_Party_hall cd_Party_hall ct_Party_hall), sl_Party_hall⟩) (c_Party_hall : PySem.W.codeIn K cd_Party_hall "Party.hall" = true) (k_Party_hall : PySem.W.keepIn K (.ref p_Party_hall) = true)
    (l_Party_most : K.lookup p_Party_most = some ⟨oc_Party_most, od_Party_most, .func (PySem.W.fnOf "most" "Party.most" (defArgs st_Party_most) (defBody st_Party_most) (defScope st_Party_most) .none kV_Party_most dc_Party_most pm_Party_most an_Party_most cd_Party_most ct_Party_most), sl_Party_most⟩) (c_Party_most : PySem.W.codeIn K cd_Party_most "Party.most" = true) (k_Party_most : PySem.W.keepIn K (.ref p_Party_most) = true)
    (l_Party_fewest : K.lookup p_Party_fewest = some ⟨oc_Party_fewest, od_Party_fewest, .func (PySem.W.fnOf "fewest" "Party.fewest" (defArgs st_Party_fewest) (defBody st_Party_fewest) (defScope st_Party_fewest) .none kV_Party_fewest dc_Party_fewest pm_Party_fewest an_Party_fewest cd_Party_fewest ct_Party_fewest), sl_Party_fewest⟩) (c_Party_fewest : PySem.W.codeIn K cd_Party_fewest "Party.fewest" = true) (k_Party_fewest : PySem.W.keepIn K (.ref p_Party_fewest) = true)
    (l_Party_accept : K.lookup p_Party_accept = some ⟨oc_Party_accept, od_Party_accept, .func (PySem.W.fnOf "accept" "Party.accept" (defArgs st_Party_accept) (defBody st_Party_accept) (defScope st_Party_accept) .none kV_Party_accept dc_Party_accept pm_Party_accept an_Party_accept cd_Party_accept ct_Party_accept), sl_Party_accept⟩) (c_Party_accept : PySem.W.codeIn K cd_Party_accept "Party.accept" = true) (k_Party_accept : PySem.W.keepIn K (.ref p_Party_accept) = true)
    (l_Party___len__ : K.lookup p_Party___len__ = some ⟨oc_Party___len__, od_Party___len__, .func (PySem.W.fnOf "__len__" "Party.__len__" (defArgs st_Party___len__) (defBody st_Party___len__) (defScope st_Party___len__) .none kV_Party___len__ dc_Party___len__ pm_Party___len__ an_Party___len__ cd_Party___len__ ct_Party___len__), sl_Party___len__⟩) (c_Party___len__ : PySem.W.codeIn K cd_Party___len__ "Party.__len__" = true) (k_Party___len__ : PySem.W.keepIn K (.ref p_Party___len__) = true)
    (l_Party___str__ : K.lookup p_Party___str__ = some ⟨oc_Party___str__, od_Party___str__, .func (PySem.W.fnOf "__str__" "Party.__str__" (defArgs st_Party___str__) (defBody st_Party___str__) (defScope st_Party___str__) .none kV_Party___str__ dc_Party___str__ pm_Party___str__ an_Party___str__ cd_Party___str__ ct_Party___str__), sl_Party___str__⟩) (c_Party___str__ : PySem.W.codeIn K cd_Party___str__ "Party.__str__" = true) (k_Party___str__ : PySem.W.keepIn K (.ref p_Party___str__) = true)
    (l_Party_require_idle : K.lookup p_Party_require_idle = some ⟨oc_Party_require_idle, od_Party_require_idle, .func (PySem.W.fnOf "require_idle" "Party.require_idle" (defArgs st_Party_require_idle) (defBody st_Party_require_idle) (defScope st_Party_require_idle) .none kV_Party_require_idle dc_Party_require_idle pm_Party_require_idle an_Party_require_idle cd_Party_require_idle ct_Party_require_idle), sl_Party_require_idle⟩) (c_Party_require_idle : PySem.W.codeIn K cd_Party_require_idle "Party.require_idle" = true) (k_Party_require_idle : PySem.W.keepIn K (.ref p_Party_require_idle) = true)
    (l_Party_state_after : K.lookup p_Party_state_after = some ⟨oc_Party_state_after, od_Party_state_after, .func (PySem.W.fnOf "state_after" "Party.state_after" (defArgs st_Party_state_after) (defBody st_Party_state_after) (defScope st_Party_state_after) .none kV_Party_state_after dc_Party_state_after pm_Party_state_after an_Party_state_after cd_Party_state_after ct_Party_state_after), sl_Party_state_after⟩) (c_Party_state_after : PySem.W.codeIn K cd_Party_state_after "Party.state_after" = true) (k_Party_state_after : PySem.W.keepIn K (.ref p_Party_state_after) = true)
    (l_Party_perform : K.lookup p_Party_perform = some ⟨oc_Party_perform, od_Party_perform, .func (PySem.W.fnOf "perform" "Party.perform" (defArgs st_Party_perform) (defBody st_Party_perform) (defScope st_Party_perform) .none kV_Party_perform dc_Party_perform pm_Party_perform an_Party_perform cd_Party_perform ct_Party_perform), sl_Party_perform⟩) (c_Party_perform : PySem.W.codeIn K cd_Party_perform "Party.perform" = true) (k_Party_perform : PySem.W.keepIn K (.ref p_Party_perform) = true)
    (l_Party_come : K.lookup p_Party_come = some ⟨oc_Party_come, od_Party_come, .func (PySem.W.fnOf "come" "Party.come" (defArgs st_Party_come) (defBody st_Party_come) (defScope st_Party_come) .none kV_Party_come dc_Party_come pm_Party_come an_Party_come cd_Party_come ct_Party_come), sl_Party_come⟩) (c_Party_come : PySem.W.codeIn K cd_Party_come "Party.come" = true) (k_Party_come : PySem.W.keepIn K (.ref p_Party_come) = true)
    (l_Party_leave : K.lookup p_Party_leave = some ⟨oc_Party_leave, od_Party_leave, .func (PySem.W.fnOf "leave" "Party.leave" (defArgs st_Party_leave) (defBody st_Party_leave) (defScope st_Party_leave) .none kV_Party_leave dc_Party_leave pm_Party_leave an_Party_leave cd_Party_leave ct_Party_leave), sl_Party_leave⟩) (c_Party_leave : PySem.W.codeIn K cd_Party_leave "Party.leave" = true) (k_Party_leave : PySem.W.keepIn K (.ref p_Party_leave) = true)
    (l_Party_put : K.lookup p_Party_put = some ⟨oc_Party_put, od_Party_put, .func (PySem.W.fnOf "put" "Party.put" (defArgs st_Party_put) (defBody st_Party_put) (defScope st_Party_put) .none kV_Party_put dc_Party_put pm_Party_put an_Party_put cd_Party_put ct_Party_put), sl_Party_put⟩) (c_Party_put : PySem.W.codeIn K cd_Party_put "Party.put" = true) (k_Party_put : PySem.W.keepIn K (.ref p_Party_put) = true)
    (l_Party_take : K.lookup p_Party_take = some ⟨oc_Party_take, od_Party_take, .func (PySem.W.fnOf "take" "Party.take" (defArgs st_Party_take) (defBody st_Party_take) (defScope st_Party_take) .none kV_Party_take dc_Party_take pm_Party_take an_Party_take cd_Party_take ct_Party_take), sl_Party_take⟩) (c_Party_take : PySem.W.codeIn K cd_Party_take "Party.take" = true) (k_Party_take : PySem.W.keepIn K (.ref p_Party_take) = true)
    (l_Party_hall_at : K.lookup p_Party_hall_at = some ⟨oc_Party_hall_at, od_Party_hall_at, .func (PySem.W.fnOf "hall_at" "Party.hall_at" (defArgs st_Party_hall_at) (defBody st_Party_hall_at) (defScope st_Party_hall_at) .none kV_Party_hall_at dc_Party_hall_at pm_Party_hall_at an_Party_hall_at cd_Party_hall_at ct_Party_hall_at), sl_Party_hall_at⟩) (c_Party_hall_at : PySem.W.codeIn K cd_Party_hall_at "Party.hall_at" = true) (k_Party_hall_at : PySem.W.keepIn K (.ref p_Party_hall_at) = true)
    (l_Party_state : K.lookup p_Party_state = some ⟨oc_Party_state, od_Party_state, .func (PySem.W.fnOf "state" "Party.state" (defArgs st_Party_state) (defBody st_Party_state) (defScope st_Party_state) .none (.ref kD_Party_state) dc_Party_state pm_Party_state an_Party_state cd_Party_state ct_Party_state), sl_Party_state⟩) (c_Party_state : PySem.W.codeIn K cd_Party_state "Party.state" = true) (k_Party_state : PySem.W.keepIn K (.ref p_Party_state) = true)
    (l_Party_edits : K.lookup p_Party_edits = some ⟨oc_Party_edits, od_Party_edits, .func (PySem.W.fnOf "edits" "Party.edits" (defArgs st_Party_edits) (defBody st_Party_edits) (defScope st_Party_edits) .none kV_Party_edits dc_Party_edits pm_Party_edits an_Party_edits cd_Party_edits ct_Party_edits), sl_Party_edits⟩) (c_Party_edits : PySem.W.codeIn K cd_Party_edits "Party.edits" = true) (k_Party_edits : PySem.W.keepIn K (.ref p_Party_edits) = true)
    (x__law_deck : PySem.W.nsIn K mainGlobals "_law_deck" = some (some (.ref p__law_deck))) (l__law_deck : K.lookup p__law_deck = some ⟨oc__law_deck, od__law_deck, .func (PySem.W.fnOf "_law_deck" "_law_deck" (defArgs st__law_deck) (defBody st__law_deck) (defScope st__law_deck) .none kV__law_deck dc__law_deck pm__law_deck an__law_deck cd__law_deck ct__law_deck), sl__law_deck⟩) (c__law_deck : PySem.W.codeIn K cd__law_deck "_law_deck" = true) (k__law_deck : PySem.W.keepIn K (.ref p__law_deck) = true)
    (x__law_draw : PySem.W.nsIn K mainGlobals "_law_draw" = some (some (.ref p__law_draw))) (l__law_draw : K.lookup p__law_draw = some ⟨oc__law_draw, od__law_draw, .func (PySem.W.fnOf "_law_draw" "_law_draw" (defArgs st__law_draw) (defBody st__law_draw) (defScope st__law_draw) .none kV__law_draw dc__law_draw pm__law_draw an__law_draw cd__law_draw ct__law_draw), sl__law_draw⟩) (c__law_draw : PySem.W.codeIn K cd__law_draw "_law_draw" = true) (k__law_draw : PySem.W.keepIn K (.ref p__law_draw) = true)
    (x__law_sizes : PySem.W.nsIn K mainGlobals "_law_sizes" = some (some (.ref p__law_sizes))) (l__law_sizes : K.lookup p__law_sizes = some ⟨oc__law_sizes, od__law_sizes, .func (PySem.W.fnOf "_law_sizes" "_law_sizes" (defArgs st__law_sizes) (defBody st__law_sizes) (defScope st__law_sizes) .none kV__law_sizes dc__law_sizes pm__law_sizes an__law_sizes cd__law_sizes ct__law_sizes), sl__law_sizes⟩) (c__law_sizes : PySem.W.codeIn K cd__law_sizes "_law_sizes" = true) (k__law_sizes : PySem.W.keepIn K (.ref p__law_sizes) = true)
    (x__law_hall : PySem.W.nsIn K mainGlobals "_law_hall" = some (some (.ref p__law_hall))) (l__law_hall : K.lookup p__law_hall = some ⟨oc__law_hall, od__law_hall, .func (PySem.W.fnOf "_law_hall" "_law_hall" (defArgs st__law_hall) (defBody st__law_hall) (defScope st__law_hall) .none kV__law_hall dc__law_hall pm__law_hall an__law_hall cd__law_hall ct__law_hall), sl__law_hall⟩) (c__law_hall : PySem.W.codeIn K cd__law_hall "_law_hall" = true) (k__law_hall : PySem.W.keepIn K (.ref p__law_hall) = true)
    (x__law_ends : PySem.W.nsIn K mainGlobals "_law_ends" = some (some (.ref p__law_ends))) (l__law_ends : K.lookup p__law_ends = some ⟨oc__law_ends, od__law_ends, .func (PySem.W.fnOf "_law_ends" "_law_ends" (defArgs st__law_ends) (defBody st__law_ends) (defScope st__law_ends) .none kV__law_ends dc__law_ends pm__law_ends an__law_ends cd__law_ends ct__law_ends), sl__law_ends⟩) (c__law_ends : PySem.W.codeIn K cd__law_ends "_law_ends" = true) (k__law_ends : PySem.W.keepIn K (.ref p__law_ends) = true)
    (x__law_after : PySem.W.nsIn K mainGlobals "_law_after" = some (some (.ref p__law_after))) (l__law_after : K.lookup p__law_after = some ⟨oc__law_after, od__law_after, .func (PySem.W.fnOf "_law_after" "_law_after" (defArgs st__law_after) (defBody st__law_after) (defScope st__law_after) .none kV__law_after dc__law_after pm__law_after an__law_after cd__law_after ct__law_after), sl__law_after⟩) (c__law_after : PySem.W.codeIn K cd__law_after "_law_after" = true) (k__law_after : PySem.W.keepIn K (.ref p__law_after) = true)
    (x__law_edit : PySem.W.nsIn K mainGlobals "_law_edit" = some (some (.ref p__law_edit))) (l__law_edit : K.lookup p__law_edit = some ⟨oc__law_edit, od__law_edit, .func (PySem.W.fnOf "_law_edit" "_law_edit" (defArgs st__law_edit) (defBody st__law_edit) (defScope st__law_edit) .none kV__law_edit dc__law_edit pm__law_edit an__law_edit cd__law_edit ct__law_edit), sl__law_edit⟩) (c__law_edit : PySem.W.codeIn K cd__law_edit "_law_edit" = true) (k__law_edit : PySem.W.keepIn K (.ref p__law_edit) = true)
    (x__law_do : PySem.W.nsIn K mainGlobals "_law_do" = some (some (.ref p__law_do))) (l__law_do : K.lookup p__law_do = some ⟨oc__law_do, od__law_do, .func (PySem.W.fnOf "_law_do" "_law_do" (defArgs st__law_do) (defBody st__law_do) (defScope st__law_do) .none kV__law_do dc__law_do pm__law_do an__law_do cd__law_do ct__law_do), sl__law_do⟩) (c__law_do : PySem.W.codeIn K cd__law_do "_law_do" = true) (k__law_do : PySem.W.keepIn K (.ref p__law_do) = true)
    (x__law_right : PySem.W.nsIn K mainGlobals "_law_right" = some (some (.ref p__law_right))) (l__law_right : K.lookup p__law_right = some ⟨oc__law_right, od__law_right, .func (PySem.W.fnOf "_law_right" "_law_right" (defArgs st__law_right) (defBody st__law_right) (defScope st__law_right) .none kV__law_right dc__law_right pm__law_right an__law_right cd__law_right ct__law_right), sl__law_right⟩) (c__law_right : PySem.W.codeIn K cd__law_right "_law_right" = true) (k__law_right : PySem.W.keepIn K (.ref p__law_right) = true)
    (x_law : PySem.W.nsIn K mainGlobals "law" = some (some (.ref p_law))) (l_law : K.lookup p_law = some ⟨oc_law, od_law, .func (PySem.W.fnOf "law" "law" (defArgs st_law) (defBody st_law) (defScope st_law) .none kV_law dc_law pm_law an_law cd_law ct_law), sl_law⟩) (c_law : PySem.W.codeIn K cd_law "law" = true) (k_law : PySem.W.keepIn K (.ref p_law) = true)
    (h_fd_Party_state_kw0 : PySem.W.nsIn K kD_Party_state "version" = some (some .none))
    {t_MAX_EDITS : Tok} (x_MAX_EDITS : PySem.W.nsIn K mainGlobals "MAX_EDITS" = some (some (.int 60 t_MAX_EDITS)))
    {t_MAX_GUESTS : Tok} (x_MAX_GUESTS : PySem.W.nsIn K mainGlobals "MAX_GUESTS" = some (some (.int 20 t_MAX_GUESTS)))
    {t_MAX_PAIRS : Tok} (x_MAX_PAIRS : PySem.W.nsIn K mainGlobals "MAX_PAIRS" = some (some (.int 20 t_MAX_PAIRS)))
    {t_MAX_SIZE : Tok} (x_MAX_SIZE : PySem.W.nsIn K mainGlobals "MAX_SIZE" = some (some (.int 1000000 t_MAX_SIZE)))
    (x_abs : PySem.W.nsIn K mainGlobals "abs" = some none)
    (x_bool : PySem.W.nsIn K mainGlobals "bool" = some none)
    (x_enumerate : PySem.W.nsIn K mainGlobals "enumerate" = some none)
    (x_int : PySem.W.nsIn K mainGlobals "int" = some none)
    (x_isinstance : PySem.W.nsIn K mainGlobals "isinstance" = some none)
    (x_len : PySem.W.nsIn K mainGlobals "len" = some none)
    (x_max : PySem.W.nsIn K mainGlobals "max" = some none)
    (x_min : PySem.W.nsIn K mainGlobals "min" = some none)
    (x_range : PySem.W.nsIn K mainGlobals "range" = some none)
    (x_repr : PySem.W.nsIn K mainGlobals "repr" = some none)
    (x_set : PySem.W.nsIn K mainGlobals "set" = some none)
    (x_sorted : PySem.W.nsIn K mainGlobals "sorted" = some none)
    (x_str : PySem.W.nsIn K mainGlobals "str" = some none)
    (x_sum : PySem.W.nsIn K mainGlobals "sum" = some none)
    (x_tuple : PySem.W.nsIn K mainGlobals "tuple" = some none)
    (x_zip : PySem.W.nsIn K mainGlobals "zip" = some none)
    (fin : ∀ (cl : CLs) (ns : List Int), ns.length ≤ 63 → ∃ S, den_law cl [.scr (ns.map .int)] [] = .ok (.bl true) S) :
    (∀ base : Heap, K.In base → base.Ns mainGlobals mg → FnG l.prog w K mg base 7 fa 1 (den_law (clOf mg))) ∧ ∀ ns : List Int, ns.length ≤ 63 → ∃ S, (den_law (clOf mg)) [.scr (ns.map .int)] [] = .ok (.bl true) S := by
  have e := hfa.symm.trans (PySem.W.mg_of X G x_law)
  cases e
  obtain rfl : ca mg "Party" = A_Party := ca_of (PySem.W.mg_of X G x_Party)
  let T : Tab (clOf mg) K mg := ⟨p_is_number, _, PySem.W.mg_of X G x_is_number, fun_mk (st := st_is_number) l_is_number c_is_number k_is_number, p_is_size, _, PySem.W.mg_of X G x_is_size, fun_mk (st := st_is_size) l_is_size c_is_size k_is_size, p_first_wrong, _, PySem.W.mg_of X G x_first_wrong, fun_mk (st := st_first_wrong) l_first_wrong c_first_wrong k_first_wrong, p_hall_error, _, PySem.W.mg_of X G x_hall_error, fun_mk (st := st_hall_error) l_hall_error c_hall_error k_hall_error, p_counts_at, _, PySem.W.mg_of X G x_counts_at, fun_mk (st := st_counts_at) l_counts_at c_counts_at k_counts_at, p_sizes_to_try, _, PySem.W.mg_of X G x_sizes_to_try, fun_mk (st := st_sizes_to_try) l_sizes_to_try c_sizes_to_try k_sizes_to_try, p_most_served, _, PySem.W.mg_of X G x_most_served, fun_mk (st := st_most_served) l_most_served c_most_served k_most_served, p_fewest_served, _, PySem.W.mg_of X G x_fewest_served, fun_mk (st := st_fewest_served) l_fewest_served c_fewest_served k_fewest_served, p_is_within, _, PySem.W.mg_of X G x_is_within, fun_mk (st := st_is_within) l_is_within c_is_within k_is_within, p_with_guest, _, PySem.W.mg_of X G x_with_guest, fun_mk (st := st_with_guest) l_with_guest c_with_guest k_with_guest, p_without_guest, _, PySem.W.mg_of X G x_without_guest, fun_mk (st := st_without_guest) l_without_guest c_without_guest k_without_guest, p_with_pair, _, PySem.W.mg_of X G x_with_pair, fun_mk (st := st_with_pair) l_with_pair c_with_pair k_with_pair, p_without_pair, _, PySem.W.mg_of X G x_without_pair, fun_mk (st := st_without_pair) l_without_pair c_without_pair k_without_pair, p_Party___init__, _, fun_mk (st := st_Party___init__) l_Party___init__ c_Party___init__ k_Party___init__, p_Party_hall, _, fun_mk (st := st_Party_hall) l_Party_hall c_Party_hall k_Party_hall, p_Party_most, _, fun_mk (st := st_Party_most) l_Party_most c_Party_most k_Party_most, p_Party_fewest, _, fun_mk (st := st_Party_fewest) l_Party_fewest c_Party_fewest k_Party_fewest, p_Party_accept, _, fun_mk (st := st_Party_accept) l_Party_accept c_Party_accept k_Party_accept, p_Party___len__, _, fun_mk (st := st_Party___len__) l_Party___len__ c_Party___len__ k_Party___len__, p_Party___str__, _, fun_mk (st := st_Party___str__) l_Party___str__ c_Party___str__ k_Party___str__, p_Party_require_idle, _, fun_mk (st := st_Party_require_idle) l_Party_require_idle c_Party_require_idle k_Party_require_idle, p_Party_state_after, _, fun_mk (st := st_Party_state_after) l_Party_state_after c_Party_state_after k_Party_state_after, p_Party_perform, _, fun_mk (st := st_Party_perform) l_Party_perform c_Party_perform k_Party_perform, p_Party_come, _, fun_mk (st := st_Party_come) l_Party_come c_Party_come k_Party_come, p_Party_leave, _, fun_mk (st := st_Party_leave) l_Party_leave c_Party_leave k_Party_leave, p_Party_put, _, fun_mk (st := st_Party_put) l_Party_put c_Party_put k_Party_put, p_Party_take, _, fun_mk (st := st_Party_take) l_Party_take c_Party_take k_Party_take, p_Party_hall_at, _, fun_mk (st := st_Party_hall_at) l_Party_hall_at c_Party_hall_at k_Party_hall_at, p_Party_state, _, fun_mk (st := st_Party_state) l_Party_state c_Party_state k_Party_state, p_Party_edits, _, fun_mk (st := st_Party_edits) l_Party_edits c_Party_edits k_Party_edits, p__law_deck, _, PySem.W.mg_of X G x__law_deck, fun_mk (st := st__law_deck) l__law_deck c__law_deck k__law_deck, p__law_draw, _, PySem.W.mg_of X G x__law_draw, fun_mk (st := st__law_draw) l__law_draw c__law_draw k__law_draw, p__law_sizes, _, PySem.W.mg_of X G x__law_sizes, fun_mk (st := st__law_sizes) l__law_sizes c__law_sizes k__law_sizes, p__law_hall, _, PySem.W.mg_of X G x__law_hall, fun_mk (st := st__law_hall) l__law_hall c__law_hall k__law_hall, p__law_ends, _, PySem.W.mg_of X G x__law_ends, fun_mk (st := st__law_ends) l__law_ends c__law_ends k__law_ends, p__law_after, _, PySem.W.mg_of X G x__law_after, fun_mk (st := st__law_after) l__law_after c__law_after k__law_after, p__law_edit, _, PySem.W.mg_of X G x__law_edit, fun_mk (st := st__law_edit) l__law_edit c__law_edit k__law_edit, p__law_do, _, PySem.W.mg_of X G x__law_do, fun_mk (st := st__law_do) l__law_do c__law_do k__law_do, p__law_right, _, PySem.W.mg_of X G x__law_right, fun_mk (st := st__law_right) l__law_right c__law_right k__law_right, fa, _, PySem.W.mg_of X G x_law, fun_mk (st := st_law) l_law c_law k_law, PySem.W.mg_of X G x_Party, ⟨h_c_Party_pg, h_c_Party_hd, h_c_Party_po, h_c_Party_sa⟩, ⟨h_k_Party_mk, h_k_Party_fi, h_k_Party_fn, h_k_Party_kp⟩, ⟨h_me_Party___len___fi, h_me_Party___len___fn, h_me_Party___len___kp⟩, ⟨h_me_Party___str___fi, h_me_Party___str___fn, h_me_Party___str___kp⟩, ⟨h_me_Party_accept_fi, h_me_Party_accept_fn, h_me_Party_accept_kp⟩, ⟨h_me_Party_come_fi, h_me_Party_come_fn, h_me_Party_come_kp⟩, ⟨h_me_Party_edits_fi, h_me_Party_edits_fn, h_me_Party_edits_kp⟩, ⟨h_me_Party_hall_at_fi, h_me_Party_hall_at_fn, h_me_Party_hall_at_kp⟩, ⟨h_me_Party_leave_fi, h_me_Party_leave_fn, h_me_Party_leave_kp⟩, ⟨h_me_Party_perform_fi, h_me_Party_perform_fn, h_me_Party_perform_kp⟩, ⟨h_me_Party_put_fi, h_me_Party_put_fn, h_me_Party_put_kp⟩, ⟨h_me_Party_require_idle_fi, h_me_Party_require_idle_fn, h_me_Party_require_idle_kp⟩, ⟨h_me_Party_state_fi, h_me_Party_state_fn, h_me_Party_state_kp⟩, ⟨h_me_Party_state_after_fi, h_me_Party_state_after_fn, h_me_Party_state_after_kp⟩, ⟨h_me_Party_take_fi, h_me_Party_take_fn, h_me_Party_take_kp⟩, q_Party_fewest, ⟨h_p_Party_fewest_at, h_p_Party_fewest_ge, h_p_Party_fewest_tk, ⟨_, h_p_Party_fewest_rc⟩⟩, q_Party_hall, ⟨h_p_Party_hall_at, h_p_Party_hall_ge, h_p_Party_hall_tk, ⟨_, h_p_Party_hall_rc⟩⟩, q_Party_most, ⟨h_p_Party_most_at, h_p_Party_most_ge, h_p_Party_most_tk, ⟨_, h_p_Party_most_rc⟩⟩, h_n_Party_ends_na, h_n_Party_standing_na, h_n_Party_states_na, h_n_Party_watching_na, funD_mk (st := st_Party_state) l_Party_state c_Party_state k_Party_state (.cons h_fd_Party_state_kw0 (.nil)), t_MAX_EDITS, PySem.W.mg_of X G x_MAX_EDITS, t_MAX_GUESTS, PySem.W.mg_of X G x_MAX_GUESTS, t_MAX_PAIRS, PySem.W.mg_of X G x_MAX_PAIRS, t_MAX_SIZE, PySem.W.mg_of X G x_MAX_SIZE, PySem.W.mg_none_of X G x_abs, PySem.W.mg_none_of X G x_bool, PySem.W.mg_none_of X G x_enumerate, PySem.W.mg_none_of X G x_int, PySem.W.mg_none_of X G x_isinstance, PySem.W.mg_none_of X G x_len, PySem.W.mg_none_of X G x_max, PySem.W.mg_none_of X G x_min, PySem.W.mg_none_of X G x_range, PySem.W.mg_none_of X G x_repr, PySem.W.mg_none_of X G x_set, PySem.W.mg_none_of X G x_sorted, PySem.W.mg_none_of X G x_str, PySem.W.mg_none_of X G x_sum, PySem.W.mg_none_of X G x_tuple, PySem.W.mg_none_of X G x_zip⟩
  exact ⟨fun base _ _ => fn_law T, fin _⟩
end LK
open PySem
theorem PySem.Challenge.cw_shoeparty_k36_parties_edited_holds : PySem.Challenge.rw_shoeparty_k36_parties_edited.Holds := by
  w_on; o_law; k_head; (case hw => w_witness2)
  k_fill
  refine DL.law_end (l := PySem.Challenge.rw_shoeparty_k36_parties_edited) (k := 7) (den := fun _ mg => LK.den_law (LK.clOf mg)) rfl rfl ⟨rfl, by decide, by decide⟩ (fun w h Y => PySem.W.kIn_of Y) ?F
  case F =>
    intro w mg fa h KX G hmg
    refine' LK.all_mk KX G hmg ?x_Party ?h_c_Party_pg ?h_c_Party_hd ?h_c_Party_po ?h_c_Party_sa ?h_k_Party_mk ?h_k_Party_fi ?h_k_Party_fn ?h_k_Party_kp ?h_me_Party___len___fi ?h_me_Party___len___fn ?h_me_Party___len___kp ?h_me_Party___str___fi ?h_me_Party___str___fn ?h_me_Party___str___kp ?h_me_Party_accept_fi ?h_me_Party_accept_fn ?h_me_Party_accept_kp ?h_me_Party_come_fi ?h_me_Party_come_fn ?h_me_Party_come_kp ?h_me_Party_edits_fi ?h_me_Party_edits_fn ?h_me_Party_edits_kp ?h_me_Party_hall_at_fi ?h_me_Party_hall_at_fn ?h_me_Party_hall_at_kp ?h_me_Party_leave_fi ?h_me_Party_leave_fn ?h_me_Party_leave_kp ?h_me_Party_perform_fi ?h_me_Party_perform_fn ?h_me_Party_perform_kp ?h_me_Party_put_fi ?h_me_Party_put_fn ?h_me_Party_put_kp ?h_me_Party_require_idle_fi ?h_me_Party_require_idle_fn ?h_me_Party_require_idle_kp ?h_me_Party_state_fi ?h_me_Party_state_fn ?h_me_Party_state_kp ?h_me_Party_state_after_fi ?h_me_Party_state_after_fn ?h_me_Party_state_after_kp ?h_me_Party_take_fi ?h_me_Party_take_fn ?h_me_Party_take_kp ?h_p_Party_fewest_at ?h_p_Party_fewest_ge ?h_p_Party_fewest_tk ?h_p_Party_fewest_rc ?h_p_Party_hall_at ?h_p_Party_hall_ge ?h_p_Party_hall_tk ?h_p_Party_hall_rc ?h_p_Party_most_at ?h_p_Party_most_ge ?h_p_Party_most_tk ?h_p_Party_most_rc ?h_n_Party_ends_na ?h_n_Party_standing_na ?h_n_Party_states_na ?h_n_Party_watching_na ?x_is_number ?l_is_number ?c_is_number ?k_is_number ?x_is_size ?l_is_size ?c_is_size ?k_is_size ?x_first_wrong ?l_first_wrong ?c_first_wrong ?k_first_wrong ?x_hall_error ?l_hall_error ?c_hall_error ?k_hall_error ?x_counts_at ?l_counts_at ?c_counts_at ?k_counts_at ?x_sizes_to_try ?l_sizes_to_try ?c_sizes_to_try ?k_sizes_to_try ?x_most_served ?l_most_served ?c_most_served ?k_most_served ?x_fewest_served ?l_fewest_served ?c_fewest_served ?k_fewest_served ?x_is_within ?l_is_within ?c_is_within ?k_is_within ?x_with_guest ?l_with_guest ?c_with_guest ?k_with_guest ?x_without_guest ?l_without_guest ?c_without_guest ?k_without_guest ?x_with_pair ?l_with_pair ?c_with_pair ?k_with_pair ?x_without_pair ?l_without_pair ?c_without_pair ?k_without_pair ?l_Party___init__ ?c_Party___init__ ?k_Party___init__ ?l_Party_hall ?c_Party_hall ?k_Party_hall ?l_Party_most ?c_Party_most ?k_Party_most ?l_Party_fewest ?c_Party_fewest ?k_Party_fewest ?l_Party_accept ?c_Party_accept ?k_Party_accept ?l_Party___len__ ?c_Party___len__ ?k_Party___len__ ?l_Party___str__ ?c_Party___str__ ?k_Party___str__ ?l_Party_require_idle ?c_Party_require_idle ?k_Party_require_idle ?l_Party_state_after ?c_Party_state_after ?k_Party_state_after ?l_Party_perform ?c_Party_perform ?k_Party_perform ?l_Party_come ?c_Party_come ?k_Party_come ?l_Party_leave ?c_Party_leave ?k_Party_leave ?l_Party_put ?c_Party_put ?k_Party_put ?l_Party_take ?c_Party_take ?k_Party_take ?l_Party_hall_at ?c_Party_hall_at ?k_Party_hall_at ?l_Party_state ?c_Party_state ?k_Party_state ?l_Party_edits ?c_Party_edits ?k_Party_edits ?x__law_deck ?l__law_deck ?c__law_deck ?k__law_deck ?x__law_draw ?l__law_draw ?c__law_draw ?k__law_draw ?x__law_sizes ?l__law_sizes ?c__law_sizes ?k__law_sizes ?x__law_hall ?l__law_hall ?c__law_hall ?k__law_hall ?x__law_ends ?l__law_ends ?c__law_ends ?k__law_ends ?x__law_after ?l__law_after ?c__law_after ?k__law_after ?x__law_edit ?l__law_edit ?c__law_edit ?k__law_edit ?x__law_do ?l__law_do ?c__law_do ?k__law_do ?x__law_right ?l__law_right ?c__law_right ?k__law_right ?x_law ?l_law ?c_law ?k_law ?h_fd_Party_state_kw0 ?x_MAX_EDITS ?x_MAX_GUESTS ?x_MAX_PAIRS ?x_MAX_SIZE ?x_abs ?x_bool ?x_enumerate ?x_int ?x_isinstance ?x_len ?x_max ?x_min ?x_range ?x_repr ?x_set ?x_sorted ?x_str ?x_sum ?x_tuple ?x_zip LK.law_true
    (case x_Party => k_is)
    (case h_c_Party_pg => k_is)
    (case h_c_Party_hd => k_is)
    (case h_c_Party_po => k_is)
    (case h_c_Party_sa => k_is)
    (case h_k_Party_mk => k_is)
    (case h_k_Party_fi => k_is)
    (case h_k_Party_fn => k_is)
    (case h_k_Party_kp => k_is)
    (case h_me_Party___len___fi => k_is)
    (case h_me_Party___len___fn => k_is)
    (case h_me_Party___len___kp => k_is)
    (case h_me_Party___str___fi => k_is)
    (case h_me_Party___str___fn => k_is)
    (case h_me_Party___str___kp => k_is)
    (case h_me_Party_accept_fi => k_is)
    (case h_me_Party_accept_fn => k_is)
    (case h_me_Party_accept_kp => k_is)
    (case h_me_Party_come_fi => k_is)
    (case h_me_Party_come_fn => k_is)
    (case h_me_Party_come_kp => k_is)
    (case h_me_Party_edits_fi => k_is)
    (case h_me_Party_edits_fn => k_is)
    (case h_me_Party_edits_kp => k_is)
    (case h_me_Party_hall_at_fi => k_is)
    (case h_me_Party_hall_at_fn => k_is)
    (case h_me_Party_hall_at_kp => k_is)
    (case h_me_Party_leave_fi => k_is)
    (case h_me_Party_leave_fn => k_is)
    (case h_me_Party_leave_kp => k_is)
    (case h_me_Party_perform_fi => k_is)
    (case h_me_Party_perform_fn => k_is)
    (case h_me_Party_perform_kp => k_is)
    (case h_me_Party_put_fi => k_is)
    (case h_me_Party_put_fn => k_is)
    (case h_me_Party_put_kp => k_is)
    (case h_me_Party_require_idle_fi => k_is)
    (case h_me_Party_require_idle_fn => k_is)
    (case h_me_Party_require_idle_kp => k_is)
    (case h_me_Party_state_fi => k_is)
    (case h_me_Party_state_fn => k_is)
    (case h_me_Party_state_kp => k_is)
    (case h_me_Party_state_after_fi => k_is)
    (case h_me_Party_state_after_fn => k_is)
    (case h_me_Party_state_after_kp => k_is)
    (case h_me_Party_take_fi => k_is)
    (case h_me_Party_take_fn => k_is)
    (case h_me_Party_take_kp => k_is)
    (case h_p_Party_fewest_at => k_is)
    (case h_p_Party_fewest_ge => k_is)
    (case h_p_Party_fewest_tk => k_is)
    (case h_p_Party_fewest_rc => k_is)
    (case h_p_Party_hall_at => k_is)
    (case h_p_Party_hall_ge => k_is)
    (case h_p_Party_hall_tk => k_is)
    (case h_p_Party_hall_rc => k_is)
    (case h_p_Party_most_at => k_is)
    (case h_p_Party_most_ge => k_is)
    (case h_p_Party_most_tk => k_is)
    (case h_p_Party_most_rc => k_is)
    (case h_n_Party_ends_na => k_is)
    (case h_n_Party_standing_na => k_is)
    (case h_n_Party_states_na => k_is)
    (case h_n_Party_watching_na => k_is)
    (case x_is_number => k_is)
    (case l_is_number => k_is)
    (case c_is_number => k_is)
    (case k_is_number => k_is)
    (case x_is_size => k_is)
    (case l_is_size => k_is)
    (case c_is_size => k_is)
    (case k_is_size => k_is)
    (case x_first_wrong => k_is)
    (case l_first_wrong => k_is)
    (case c_first_wrong => k_is)
    (case k_first_wrong => k_is)
    (case x_hall_error => k_is)
    (case l_hall_error => k_is)
    (case c_hall_error => k_is)
    (case k_hall_error => k_is)
    (case x_counts_at => k_is)
    (case l_counts_at => k_is)
    (case c_counts_at => k_is)
    (case k_counts_at => k_is)
    (case x_sizes_to_try => k_is)
    (case l_sizes_to_try => k_is)
    (case c_sizes_to_try => k_is)
    (case k_sizes_to_try => k_is)
    (case x_most_served => k_is)
    (case l_most_served => k_is)
    (case c_most_served => k_is)
    (case k_most_served => k_is)
    (case x_fewest_served => k_is)
    (case l_fewest_served => k_is)
    (case c_fewest_served => k_is)
    (case k_fewest_served => k_is)
    (case x_is_within => k_is)
    (case l_is_within => k_is)
    (case c_is_within => k_is)
    (case k_is_within => k_is)
    (case x_with_guest => k_is)
    (case l_with_guest => k_is)
    (case c_with_guest => k_is)
    (case k_with_guest => k_is)
    (case x_without_guest => k_is)
    (case l_without_guest => k_is)
    (case c_without_guest => k_is)
    (case k_without_guest => k_is)
    (case x_with_pair => k_is)
    (case l_with_pair => k_is)
    (case c_with_pair => k_is)
    (case k_with_pair => k_is)
    (case x_without_pair => k_is)
    (case l_without_pair => k_is)
    (case c_without_pair => k_is)
    (case k_without_pair => k_is)
    (case l_Party___init__ => k_is)
    (case c_Party___init__ => k_is)
    (case k_Party___init__ => k_is)
    (case l_Party_hall => k_is)
    (case c_Party_hall => k_is)
    (case k_Party_hall => k_is)
    (case l_Party_most => k_is)
    (case c_Party_most => k_is)
    (case k_Party_most => k_is)
    (case l_Party_fewest => k_is)
    (case c_Party_fewest => k_is)
    (case k_Party_fewest => k_is)
    (case l_Party_accept => k_is)
    (case c_Party_accept => k_is)
    (case k_Party_accept => k_is)
    (case l_Party___len__ => k_is)
    (case c_Party___len__ => k_is)
    (case k_Party___len__ => k_is)
    (case l_Party___str__ => k_is)
    (case c_Party___str__ => k_is)
    (case k_Party___str__ => k_is)
    (case l_Party_require_idle => k_is)
    (case c_Party_require_idle => k_is)
    (case k_Party_require_idle => k_is)
    (case l_Party_state_after => k_is)
    (case c_Party_state_after => k_is)
    (case k_Party_state_after => k_is)
    (case l_Party_perform => k_is)
    (case c_Party_perform => k_is)
    (case k_Party_perform => k_is)
    (case l_Party_come => k_is)
    (case c_Party_come => k_is)
    (case k_Party_come => k_is)
    (case l_Party_leave => k_is)
    (case c_Party_leave => k_is)
    (case k_Party_leave => k_is)
    (case l_Party_put => k_is)
    (case c_Party_put => k_is)
    (case k_Party_put => k_is)
    (case l_Party_take => k_is)
    (case c_Party_take => k_is)
    (case k_Party_take => k_is)
    (case l_Party_hall_at => k_is)
    (case c_Party_hall_at => k_is)
    (case k_Party_hall_at => k_is)
    (case l_Party_state => k_is)
    (case c_Party_state => k_is)
    (case k_Party_state => k_is)
    (case l_Party_edits => k_is)
    (case c_Party_edits => k_is)
    (case k_Party_edits => k_is)
    (case x__law_deck => k_is)
    (case l__law_deck => k_is)
    (case c__law_deck => k_is)
    (case k__law_deck => k_is)
    (case x__law_draw => k_is)
    (case l__law_draw => k_is)
    (case c__law_draw => k_is)
    (case k__law_draw => k_is)
    (case x__law_sizes => k_is)
    (case l__law_sizes => k_is)
    (case c__law_sizes => k_is)
    (case k__law_sizes => k_is)
    (case x__law_hall => k_is)
    (case l__law_hall => k_is)
    (case c__law_hall => k_is)
    (case k__law_hall => k_is)
    (case x__law_ends => k_is)
    (case l__law_ends => k_is)
    (case c__law_ends => k_is)
    (case k__law_ends => k_is)
    (case x__law_after => k_is)
    (case l__law_after => k_is)
    (case c__law_after => k_is)
    (case k__law_after => k_is)
    (case x__law_edit => k_is)
    (case l__law_edit => k_is)
    (case c__law_edit => k_is)
    (case k__law_edit => k_is)
    (case x__law_do => k_is)
    (case l__law_do => k_is)
    (case c__law_do => k_is)
    (case k__law_do => k_is)
    (case x__law_right => k_is)
    (case l__law_right => k_is)
    (case c__law_right => k_is)
    (case k__law_right => k_is)
    (case x_law => k_is)
    (case l_law => k_is)
    (case c_law => k_is)
    (case k_law => k_is)
    (case h_fd_Party_state_kw0 => k_is)
    (case x_MAX_EDITS => k_is)
    (case x_MAX_GUESTS => k_is)
    (case x_MAX_PAIRS => k_is)
    (case x_MAX_SIZE => k_is)
    (case x_abs => k_is)
    (case x_bool => k_is)
    (case x_enumerate => k_is)
    (case x_int => k_is)
    (case x_isinstance => k_is)
    (case x_len => k_is)
    (case x_max => k_is)
    (case x_min => k_is)
    (case x_range => k_is)
    (case x_repr => k_is)
    (case x_set => k_is)
    (case x_sorted => k_is)
    (case x_str => k_is)
    (case x_sum => k_is)
    (case x_tuple => k_is)
    (case x_zip => k_is)
