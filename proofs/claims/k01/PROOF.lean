import PyProof.Rows.All
import HandS.ForMost
import HandS.Wide
import HandS.TupAny
import HandS.IsInst
import HandS.Flow
import HandS.Conv
import HandS.Style
import HandS.Deep
import HandS.TupLen
import HandS.RaiseMore
import PyProof.CallFns
import PyProof.ReprRoads
import HandS.Comp
import HandS.Iter
import HandS.Text
import HandS.Ends
import Wide.All
import OpenK.AllK
import Wide.FinOn
import PySem.Challenge.RW_sheethouse_k01_times_hands_and_stamps
set_option Elab.async false
set_option linter.all false
set_option maxRecDepth 100000
set_option maxHeartbeats 4000000
/-! MP0: mini values, mini heap, what stands for what. -/
namespace MP
open PySem PySem.Spec PyProof.Rows L2

/-- a mini value: plain data; a mutable cell by its number; a tuple that holds such; a thing of the module by its name; a built-in class -/
inductive D where
  | p (x : PyData)
  | cell (n : Nat)
  | mix (xs : List D)
  | glob (x : Str)
  | ty (n : String)

/-- what stands in a cell -/
inductive C where
  | lst (xs : List D)
  | dct (kvs : List (PyData × D))
  | obj (cls : Str) (fs : List (Str × D))

abbrev Hm := List C

structure Exn where
  cls : Str
  fld : Option (Str × D)

inductive R (α : Type) where
  | ok (a : α) (h : Hm)
  | exc (e : Exn) (h : Hm)
  | bad

abbrev M (α : Type) := Hm → R α
abbrev Ev := List (Option D)

def ret {α : Type} (a : α) : M α := fun h => .ok a h
def bad {α : Type} : M α := fun _ => .bad
def bnd {α β : Type} (f : M α) (g : α → M β) : M β := fun h => match f h with
  | .ok a h' => g a h'
  | .exc e h' => .exc e h'
  | .bad => .bad

/-- the addresses of the cells, and those of lists that are being made -/
structure Mm where
  c : List Addr
  v : List Addr
instance : Membership Addr Mm := ⟨fun m a => a ∈ m.c ∨ a ∈ m.v⟩
def Mm.push (m : Mm) (p : Addr) : Mm := ⟨m.c ++ [p], m.v⟩
def Mm.hide (m : Mm) (p : Addr) : Mm := ⟨m.c, p :: m.v⟩
theorem Mm.mem_c {m : Mm} {a : Addr} (h : a ∈ m.c) : a ∈ m := Or.inl h
theorem Mm.notc {m : Mm} {a : Addr} (h : a ∉ m) : a ∉ m.c := fun z => h (Or.inl z)

/-! ### frozen things -/
def keyP : Key → PyData
  | .inl i => .int i
  | .inr x => .str x
def FzT (K : PySem.W.Frag) (m : Mm) (H : Hp) (a : Addr) (vs : List V) : Prop :=
  (Rd H a (.tup vs) ∧ a ∉ m) ∨ SqT K (fun _ => none) a vs
def FzL (K : PySem.W.Frag) (m : Mm) (H : Hp) (a : Addr) (vs : List V) : Prop :=
  (Rd H a (.lst vs) ∧ a ∉ m) ∨ SqL K (fun _ => none) a vs
def FzD (m : Mm) (H : Hp) (a : Addr) (ks : List PyData) (vs : List V) : Prop :=
  a ∉ m ∧ ((∃ kk : List (Key × V), Rd H a (.dK kk) ∧ kk.map (fun p => keyP p.1) = ks ∧ kk.map (·.2) = vs) ∨
    ∃ kk : List (List Key × V), Rd H a (.dT kk) ∧ kk.map (fun p => PyData.tuple (p.1.map keyP)) = ks ∧ kk.map (·.2) = vs)

theorem FzT.sq {K : PySem.W.Frag} {m : Mm} {H : Hp} {a : Addr} {vs : List V} (h : FzT K m H a vs) : SqT K H a vs := by
  rcases h with ⟨h, _⟩ | h
  · exact .inl h
  · rcases h with (h | ⟨o, h⟩) | h
    · cases h
    · cases h
    · exact .inr h
theorem FzL.sq {K : PySem.W.Frag} {m : Mm} {H : Hp} {a : Addr} {vs : List V} (h : FzL K m H a vs) : SqL K H a vs := by
  rcases h with ⟨h, _⟩ | h
  · exact .inl h
  · rcases h with (h | ⟨o, h⟩) | h
    · cases h
    · cases h
    · exact .inr h

/-- the tracked heap has grown: what stood outside the cells stands, the cells' addresses are as they were, new ones were free -/
structure Ext (m : Mm) (H : Hp) (m' : Mm) (H' : Hp) : Prop where
  pre : ∃ t, m'.c = m.c ++ t ∧ ∀ a ∈ t, H a = none
  same : m'.v = m.v
  keep : ∀ a o, H a = some o → a ∉ m.c → H' a = some o

theorem Ext.refl {m : Mm} {H : Hp} : Ext m H m H := ⟨⟨[], by simp, by simp⟩, rfl, fun _ _ h _ => h⟩
theorem Ext.outc {m m' : Mm} {H H' : Hp} (E : Ext m H m' H') {a : Addr} {o : HO} (h : H a = some o) (n : a ∉ m.c) : a ∉ m'.c := by
  obtain ⟨t, e, ht⟩ := E.pre
  intro hm
  rw [e] at hm
  rcases List.mem_append.mp hm with q | q
  · exact n q
  · rw [ht a q] at h; cases h
theorem Ext.out {m m' : Mm} {H H' : Hp} (E : Ext m H m' H') {a : Addr} {o : HO} (h : H a = some o) (n : a ∉ m) : a ∉ m' := by
  rintro (q | q)
  · exact E.outc h (Mm.notc n) q
  · rw [E.same] at q
    exact n (Or.inr q)
theorem Ext.free {m m' : Mm} {H H' : Hp} (E : Ext m H m' H') {a : Addr} (hm : a ∉ m.c) (h : H' a = none) : H a = none := by
  cases q : H a with
  | none => rfl
  | some o => rw [E.keep a o q hm] at h; cases h
theorem Ext.trans {m m1 m2 : Mm} {H H1 H2 : Hp} (E : Ext m H m1 H1) (F : Ext m1 H1 m2 H2) (hin : ∀ a ∈ m.c, (H1 a).isSome = true) : Ext m H m2 H2 := by
  obtain ⟨t, e1, ht⟩ := E.pre
  obtain ⟨u, e2, hu⟩ := F.pre
  refine ⟨⟨t ++ u, by rw [e2, e1, List.append_assoc], fun a ha => ?_⟩, F.same.trans E.same, fun a o h n => F.keep a o (E.keep a o h n) (E.outc h n)⟩
  rcases List.mem_append.mp ha with q | q
  · exact ht a q
  · have h1 := hu a q
    by_cases hm : a ∈ m.c
    · have := hin a hm
      rw [h1] at this; cases this
    · exact E.free hm h1
theorem Ext.at {m m' : Mm} {H H' : Hp} (E : Ext m H m' H') {n : Nat} {a : Addr} (h : m.c[n]? = some a) : m'.c[n]? = some a := by
  obtain ⟨t, e, _⟩ := E.pre
  have hl : n < m.c.length := by
    rcases Nat.lt_or_ge n m.c.length with q | q
    · exact q
    · rw [List.getElem?_eq_none_iff.mpr q] at h; cases h
  rw [e, List.getElem?_append_left hl]
  exact h
theorem Ext.rd {m m' : Mm} {H H' : Hp} (E : Ext m H m' H') {a : Addr} {u : HO} (h : Rd H a u ∧ a ∉ m) : Rd H' a u ∧ a ∉ m' := by
  obtain ⟨r, n⟩ := h
  rcases r with r | ⟨o, r⟩
  · exact ⟨.inl (E.keep _ _ r (Mm.notc n)), E.out r n⟩
  · exact ⟨.inr ⟨o, E.keep _ _ r (Mm.notc n)⟩, E.out r n⟩
/-- all that is frozen stays so -/
structure Mov (m : Mm) (H : Hp) (m' : Mm) (H' : Hp) : Prop where
  at_ : ∀ (n : Nat) a, m.c[n]? = some a → m'.c[n]? = some a
  rd : ∀ a u, Rd H a u → a ∉ m → Rd H' a u ∧ a ∉ m'
theorem Ext.mov {m m' : Mm} {H H' : Hp} (E : Ext m H m' H') : Mov m H m' H' := ⟨fun n a h => E.at h, fun a u h n => E.rd ⟨h, n⟩⟩
theorem Mov.trans {m m1 m2 : Mm} {H H1 H2 : Hp} (E : Mov m H m1 H1) (F : Mov m1 H1 m2 H2) : Mov m H m2 H2 := ⟨fun n a h => F.at_ n a (E.at_ n a h), fun a u h n => let ⟨h1, n1⟩ := E.rd a u h n; F.rd a u h1 n1⟩
theorem Mov.hide {m : Mm} {H : Hp} {p : Addr} {o : HO} (hp : H p = none) : Mov m H (m.hide p) (upd H p o) :=
  ⟨fun n a h => h, fun a u h n => by
    have hne : a ≠ p := by
      rintro rfl
      rcases h with h | ⟨o, h⟩ <;> rw [hp] at h <;> cases h
    refine ⟨?_, ?_⟩
    · rcases h with h | ⟨o, h⟩
      · exact .inl (by rw [upd_ne hne]; exact h)
      · exact .inr ⟨o, by rw [upd_ne hne]; exact h⟩
    · rintro (z | z)
      · exact n (Or.inl z)
      · rcases List.mem_cons.mp z with z | z
        · exact hne z
        · exact n (Or.inr z)⟩
theorem Mov.show {m : Mm} {H : Hp} {p : Addr} : Mov (m.hide p) H m H :=
  ⟨fun n a h => h, fun a u h n => ⟨h, fun z => n (z.imp id fun z => List.mem_cons_of_mem _ z)⟩⟩
theorem Mov.priv {m : Mm} {H : Hp} {p : Addr} {o : HO} (hp : p ∈ m.v) : Mov m H m (upd H p o) :=
  ⟨fun n a h => h, fun a u h n => by
    have hne : a ≠ p := by
      rintro rfl
      exact n (Or.inr hp)
    refine ⟨?_, n⟩
    rcases h with h | ⟨o, h⟩
    · exact .inl (by rw [upd_ne hne]; exact h)
    · exact .inr ⟨o, by rw [upd_ne hne]; exact h⟩⟩
abbrev Fro (m : Mm) (H : Hp) (m' : Mm) (H' : Hp) : Prop := ∀ a u, Rd H a u → a ∉ m → Rd H' a u ∧ a ∉ m'
theorem FzT.fro {K : PySem.W.Frag} {m m' : Mm} {H H' : Hp} {a : Addr} {vs : List V} (E : Fro m H m' H') (h : FzT K m H a vs) : FzT K m' H' a vs := h.imp (fun z => E _ _ z.1 z.2) id
theorem FzL.fro {K : PySem.W.Frag} {m m' : Mm} {H H' : Hp} {a : Addr} {vs : List V} (E : Fro m H m' H') (h : FzL K m H a vs) : FzL K m' H' a vs := h.imp (fun z => E _ _ z.1 z.2) id
theorem FzD.fro {m m' : Mm} {H H' : Hp} {a : Addr} {ks : List PyData} {vs : List V} (E : Fro m H m' H') (h : FzD m H a ks vs) : FzD m' H' a ks vs := by
  obtain ⟨n, h⟩ := h
  rcases h with ⟨kk, r, q⟩ | ⟨kk, r, q⟩
  · obtain ⟨r', n'⟩ := E _ _ r n
    exact ⟨n', .inl ⟨kk, r', q⟩⟩
  · obtain ⟨r', n'⟩ := E _ _ r n
    exact ⟨n', .inr ⟨kk, r', q⟩⟩

/-! ### plain data -/
mutual
def RepP (K : PySem.W.Frag) (m : Mm) (H : Hp) : PyData → V → Prop
  | .none, v => v = .non
  | .bool b, v => v = .bl b
  | .int i, v => v = .int i
  | .str x, v => v = .str x
  | .list xs, v => ∃ a vs, v = .ref a ∧ FzL K m H a vs ∧ RepPs K m H xs vs
  | .tuple xs, v => ∃ a vs, v = .ref a ∧ FzT K m H a vs ∧ RepPs K m H xs vs
  | .dict kvs, v => ∃ a vs, v = .ref a ∧ FzD m H a (kvs.map (·.1)) vs ∧ RepVs K m H kvs vs
def RepPs (K : PySem.W.Frag) (m : Mm) (H : Hp) : List PyData → List V → Prop
  | [], vs => vs = []
  | d :: ds, vs => ∃ v r, vs = v :: r ∧ RepP K m H d v ∧ RepPs K m H ds r
def RepVs (K : PySem.W.Frag) (m : Mm) (H : Hp) : List (PyData × PyData) → List V → Prop
  | [], vs => vs = []
  | (_, d) :: ds, vs => ∃ v r, vs = v :: r ∧ RepP K m H d v ∧ RepVs K m H ds r
end
section
variable {K : PySem.W.Frag} {m m' : Mm} {H H' : Hp}
mutual
theorem RepP.fro (E : Fro m H m' H') : ∀ (d : PyData) (v : V), RepP K m H d v → RepP K m' H' d v
  | .none, _, h => by simpa only [RepP] using h
  | .bool _, _, h => by simpa only [RepP] using h
  | .int _, _, h => by simpa only [RepP] using h
  | .str _, _, h => by simpa only [RepP] using h
  | .list xs, v, h => by
    simp only [RepP] at h ⊢
    obtain ⟨a, vs, e, f, r⟩ := h
    exact ⟨a, vs, e, f.fro E, RepPs.fro E xs vs r⟩
  | .tuple xs, v, h => by
    simp only [RepP] at h ⊢
    obtain ⟨a, vs, e, f, r⟩ := h
    exact ⟨a, vs, e, f.fro E, RepPs.fro E xs vs r⟩
  | .dict kvs, v, h => by
    simp only [RepP] at h ⊢
    obtain ⟨a, vs, e, f, r⟩ := h
    exact ⟨a, vs, e, f.fro E, RepVs.fro E kvs vs r⟩
theorem RepPs.fro (E : Fro m H m' H') : ∀ (ds : List PyData) (vs : List V), RepPs K m H ds vs → RepPs K m' H' ds vs
  | [], _, h => by simpa only [RepPs] using h
  | d :: ds, vs, h => by
    simp only [RepPs] at h ⊢
    obtain ⟨v, r, e, h1, h2⟩ := h
    exact ⟨v, r, e, RepP.fro E d v h1, RepPs.fro E ds r h2⟩
theorem RepVs.fro (E : Fro m H m' H') : ∀ (ds : List (PyData × PyData)) (vs : List V), RepVs K m H ds vs → RepVs K m' H' ds vs
  | [], _, h => by simpa only [RepVs] using h
  | (k, d) :: ds, vs, h => by
    simp only [RepVs] at h ⊢
    obtain ⟨v, r, e, h1, h2⟩ := h
    exact ⟨v, r, e, RepP.fro E d v h1, RepVs.fro E ds r h2⟩
end
end
section
variable {K : PySem.W.Frag} {m m' : Mm} {H H' : Hp}
theorem FzT.mov {a : Addr} {vs : List V} (E : Mov m H m' H') (h : FzT K m H a vs) : FzT K m' H' a vs := h.fro E.rd
theorem FzL.mov {a : Addr} {vs : List V} (E : Mov m H m' H') (h : FzL K m H a vs) : FzL K m' H' a vs := h.fro E.rd
theorem RepP.mov (E : Mov m H m' H') (d : PyData) (v : V) (h : RepP K m H d v) : RepP K m' H' d v := RepP.fro E.rd d v h
theorem RepPs.mov (E : Mov m H m' H') (d : List PyData) (v : List V) (h : RepPs K m H d v) : RepPs K m' H' d v := RepPs.fro E.rd d v h
end

/-! ### mini values -/
mutual
def Rep (K : PySem.W.Frag) (mg : Str → Option Value) (m : Mm) (H : Hp) : D → V → Prop
  | .p x, v => RepP K m H x v
  | .cell n, v => ∃ a, v = .ref a ∧ m.c[n]? = some a
  | .mix xs, v => ∃ a vs, v = .ref a ∧ FzT K m H a vs ∧ RepA K mg m H xs vs
  | .glob x, v => ∃ a, v = .ref a ∧ mg x = some (.ref a)
  | .ty n, v => v = .ty n
def RepA (K : PySem.W.Frag) (mg : Str → Option Value) (m : Mm) (H : Hp) : List D → List V → Prop
  | [], vs => vs = []
  | d :: ds, vs => ∃ v r, vs = v :: r ∧ Rep K mg m H d v ∧ RepA K mg m H ds r
end
section
variable {K : PySem.W.Frag} {mg : Str → Option Value} {m m' : Mm} {H H' : Hp}
mutual
theorem Rep.mov (E : Mov m H m' H') : ∀ (d : D) (v : V), Rep K mg m H d v → Rep K mg m' H' d v
  | .p x, v, h => by
    simp only [Rep] at h ⊢
    exact RepP.mov E x v h
  | .cell n, v, h => by
    simp only [Rep] at h ⊢
    obtain ⟨a, e, q⟩ := h
    exact ⟨a, e, E.at_ _ _ q⟩
  | .mix xs, v, h => by
    simp only [Rep] at h ⊢
    obtain ⟨a, vs, e, f, r⟩ := h
    exact ⟨a, vs, e, f.mov E, RepA.mov E xs vs r⟩
  | .glob x, v, h => by simpa only [Rep] using h
  | .ty n, v, h => by simpa only [Rep] using h
theorem RepA.mov (E : Mov m H m' H') : ∀ (ds : List D) (vs : List V), RepA K mg m H ds vs → RepA K mg m' H' ds vs
  | [], _, h => by simpa only [RepA] using h
  | d :: ds, vs, h => by
    simp only [RepA] at h ⊢
    obtain ⟨v, r, e, h1, h2⟩ := h
    exact ⟨v, r, e, Rep.mov E d v h1, RepA.mov E ds r h2⟩
end
end

section
variable {K : PySem.W.Frag} {mg : Str → Option Value} {m m' : Mm} {H H' : Hp}
theorem FzT.mono {a : Addr} {vs : List V} (E : Ext m H m' H') (h : FzT K m H a vs) : FzT K m' H' a vs := h.mov E.mov
theorem FzL.mono {a : Addr} {vs : List V} (E : Ext m H m' H') (h : FzL K m H a vs) : FzL K m' H' a vs := h.mov E.mov
theorem RepP.mono {d : PyData} {v : V} (E : Ext m H m' H') (h : RepP K m H d v) : RepP K m' H' d v := RepP.mov E.mov d v h
theorem RepPs.mono {d : List PyData} {v : List V} (E : Ext m H m' H') (h : RepPs K m H d v) : RepPs K m' H' d v := RepPs.mov E.mov d v h
theorem Rep.mono {d : D} {v : V} (E : Ext m H m' H') (h : Rep K mg m H d v) : Rep K mg m' H' d v := Rep.mov E.mov d v h
theorem RepA.mono {d : List D} {v : List V} (E : Ext m H m' H') (h : RepA K mg m H d v) : RepA K mg m' H' d v := RepA.mov E.mov d v h
end

/-! ### the mini heap -/
def RepF (K : PySem.W.Frag) (mg : Str → Option Value) (m : Mm) (H : Hp) (fs : List (Str × D)) (gs : List (Str × V)) : Prop :=
  fs.map (·.1) = gs.map (·.1) ∧ RepA K mg m H (fs.map (·.2)) (gs.map (·.2))
def CellR (K : PySem.W.Frag) (mg : Str → Option Value) (m : Mm) (H : Hp) (a : Addr) : C → Prop
  | .lst xs => ∃ vs, H a = some (.lst vs) ∧ RepA K mg m H xs vs
  | .dct kvs => ∃ vs, RepA K mg m H (kvs.map (·.2)) vs ∧
      ((∃ kk : List (Key × V), H a = some (.dK kk) ∧ kk.map (fun p => keyP p.1) = kvs.map (·.1) ∧ kk.map (·.2) = vs) ∨
        ∃ kk : List (List Key × V), H a = some (.dT kk) ∧ kk.map (fun p => PyData.tuple (p.1.map keyP)) = kvs.map (·.1) ∧ kk.map (·.2) = vs)
  | .obj cls fs => ∃ c dx gs, mg cls = some (.ref c) ∧ H a = some (.ins c dx gs) ∧ RepF K mg m H fs gs
theorem CellR.some {K : PySem.W.Frag} {mg : Str → Option Value} {m : Mm} {H : Hp} {a : Addr} {c : C} (h : CellR K mg m H a c) : (H a).isSome = true := by
  cases c with
  | lst xs => obtain ⟨vs, e, _⟩ := h; rw [e]; rfl
  | dct kvs =>
    obtain ⟨vs, _, e⟩ := h
    rcases e with ⟨kk, e, _⟩ | ⟨kk, e, _⟩ <;> rw [e] <;> rfl
  | obj cls fs => obtain ⟨c, dx, gs, _, e, _⟩ := h; rw [e]; rfl
/-- another part of the heap changed -/
theorem CellR.mov {K : PySem.W.Frag} {mg : Str → Option Value} {m m' : Mm} {H H' : Hp} {a : Addr} {c : C} (E : Mov m H m' H') (e : H' a = H a) (h : CellR K mg m H a c) : CellR K mg m' H' a c := by
  cases c with
  | lst xs => obtain ⟨vs, q, r⟩ := h; exact ⟨vs, e.trans q, RepA.mov E _ _ r⟩
  | dct kvs =>
    obtain ⟨vs, r, q⟩ := h
    refine ⟨vs, RepA.mov E _ _ r, ?_⟩
    rcases q with ⟨kk, q, z⟩ | ⟨kk, q, z⟩
    · exact .inl ⟨kk, e.trans q, z⟩
    · exact .inr ⟨kk, e.trans q, z⟩
  | obj cls fs => obtain ⟨c, dx, gs, g, q, r⟩ := h; exact ⟨c, dx, gs, g, e.trans q, r.1, RepA.mov E _ _ r.2⟩
theorem CellR.mono {K : PySem.W.Frag} {mg : Str → Option Value} {m m' : Mm} {H H' : Hp} {a : Addr} {c : C} (E : Ext m H m' H') (e : H' a = H a) (h : CellR K mg m H a c) : CellR K mg m' H' a c := h.mov E.mov e

structure Sim (K : PySem.W.Frag) (mg : Str → Option Value) (m : Mm) (H : Hp) (h : Hm) : Prop where
  len : m.c.length = h.length
  nd : m.c.Nodup
  pv : ∀ a ∈ m.v, (H a).isSome = true ∧ a ∉ m.c
  at_ : ∀ (n : Nat) a c, m.c[n]? = some a → h[n]? = some c → CellR K mg m H a c
section
variable {K : PySem.W.Frag} {mg : Str → Option Value} {m m' : Mm} {H H' : Hp} {h h' : Hm}
theorem Sim.isSomec (S : Sim K mg m H h) {a : Addr} (ha : a ∈ m.c) : (H a).isSome = true := by
  obtain ⟨n, hn⟩ := List.getElem?_of_mem ha
  have hl : n < h.length := by
    rw [← S.len]
    rcases Nat.lt_or_ge n m.c.length with q | q
    · exact q
    · rw [List.getElem?_eq_none_iff.mpr q] at hn; cases hn
  exact (S.at_ n a _ hn (List.getElem?_eq_getElem hl)).some
theorem Sim.notin (S : Sim K mg m H h) {a : Addr} (ha : H a = none) : a ∉ m := by
  rintro (q | q)
  · have := S.isSomec q
    rw [ha] at this; cases this
  · have := (S.pv a q).1
    rw [ha] at this; cases this
/-- Ext is transitive over a good middle -/
theorem Ext.then {m2 : Mm} {H2 : Hp} (E : Ext m H m' H') (S : Sim K mg m' H' h') (F : Ext m' H' m2 H2) : Ext m H m2 H2 :=
  E.trans F fun a ha => S.isSomec (by obtain ⟨t, e, _⟩ := E.pre; rw [e]; exact List.mem_append_left _ ha)
/-- the cell of a number -/
theorem Sim.cell (S : Sim K mg m H h) {n : Nat} {c : C} (e : h[n]? = some c) : ∃ a, m.c[n]? = some a ∧ CellR K mg m H a c := by
  have hl : n < m.c.length := by
    rw [S.len]
    rcases Nat.lt_or_ge n h.length with q | q
    · exact q
    · rw [List.getElem?_eq_none_iff.mpr q] at e; cases e
  exact ⟨m.c[n], List.getElem?_eq_getElem hl, S.at_ n _ c (List.getElem?_eq_getElem hl) e⟩
theorem nodup_at {l : List Addr} (nd : l.Nodup) {i j : Nat} {a : Addr} (hi : l[i]? = some a) (hj : l[j]? = some a) : i = j := by
  have li : i < l.length := by
    rcases Nat.lt_or_ge i l.length with q | q
    · exact q
    · rw [List.getElem?_eq_none_iff.mpr q] at hi; cases hi
  exact (List.getElem?_inj li nd).mp (hi.trans hj.symm)
/-- a free address gets an object that is no cell -/
theorem Ext.new {p : Addr} {o : HO} (S : Sim K mg m H h) (hp : H p = none) : Ext m H m (upd H p o) :=
  ⟨⟨[], by simp, by simp⟩, rfl, fun a u q _ => by rw [upd_ne (ne_of_none q hp)]; exact q⟩
theorem some_upd {p a : Addr} {o : HO} (h : (H a).isSome = true) : (upd H p o a).isSome = true := by
  unfold upd
  split
  · rfl
  · exact h
theorem Sim.new {p : Addr} {o : HO} (S : Sim K mg m H h) (hp : H p = none) : Sim K mg m (upd H p o) h :=
  ⟨S.len, S.nd, fun a ha => ⟨some_upd (S.pv a ha).1, (S.pv a ha).2⟩, fun n a c ha hc => (S.at_ n a c ha hc).mono (Ext.new S hp) (upd_ne fun e => S.notin hp (Mm.mem_c (by rw [← e]; exact List.mem_of_getElem? ha)))⟩
/-- a free address gets a new cell -/
theorem Ext.push {p : Addr} {o : HO} (S : Sim K mg m H h) (hp : H p = none) : Ext m H (m.push p) (upd H p o) :=
  ⟨⟨[p], rfl, fun a ha => by rw [List.mem_singleton.mp ha]; exact hp⟩, rfl, fun a u q _ => by rw [upd_ne (ne_of_none q hp)]; exact q⟩
theorem Sim.push {p : Addr} {o : HO} {c : C} (S : Sim K mg m H h) (hp : H p = none) (hc : CellR K mg (m.push p) (upd H p o) p c) : Sim K mg (m.push p) (upd H p o) (h ++ [c]) := by
  refine ⟨by simp [S.len, Mm.push], List.nodup_append.mpr ⟨S.nd, by simp, fun a ha b hb e => ?_⟩, fun a ha => ⟨some_upd (S.pv a ha).1, fun z => ?_⟩, fun n a d ha hd => ?_⟩
  · rw [List.mem_singleton] at hb
    rw [e, hb] at ha
    exact S.notin hp (Mm.mem_c ha)
  · rcases List.mem_append.mp z with z | z
    · exact (S.pv a ha).2 z
    · rw [List.mem_singleton.mp z] at ha
      exact S.notin hp (Or.inr ha)
  · have ha : (m.c ++ [p])[n]? = some a := ha
    rcases Nat.lt_or_ge n m.c.length with q | q
    · rw [List.getElem?_append_left q] at ha
      rw [List.getElem?_append_left (by rw [← S.len]; exact q)] at hd
      exact (S.at_ n a d ha hd).mono (Ext.push S hp) (upd_ne fun e => S.notin hp (Mm.mem_c (by rw [← e]; exact List.mem_of_getElem? ha)))
    · rw [List.getElem?_append_right q] at ha
      rw [List.getElem?_append_right (by rw [← S.len]; exact q), ← S.len] at hd
      cases k : n - m.c.length with
      | zero =>
        rw [k] at ha hd
        simp only [List.getElem?_cons_zero, Option.some.injEq] at ha hd
        subst ha; subst hd
        exact hc
      | succ j => rw [k] at ha; simp at ha
theorem Sim.push_at {p : Addr} (S : Sim K mg m H h) : (m.push p).c[h.length]? = some p := by
  show (m.c ++ [p])[h.length]? = some p
  rw [← S.len]
  simp
/-- a cell is written -/
theorem Ext.write {n : Nat} {a : Addr} {o : HO} (ha : m.c[n]? = some a) : Ext m H m (upd H a o) :=
  ⟨⟨[], by simp, by simp⟩, rfl, fun b u q hb => by rw [upd_ne fun e => hb (by rw [e]; exact List.mem_of_getElem? ha)]; exact q⟩
theorem Sim.write {n : Nat} {a : Addr} {o : HO} {c : C} (S : Sim K mg m H h) (ha : m.c[n]? = some a) (hc : CellR K mg m (upd H a o) a c) : Sim K mg m (upd H a o) (h.set n c) := by
  refine ⟨by simp [S.len], S.nd, fun b hb => ⟨some_upd (S.pv b hb).1, (S.pv b hb).2⟩, fun j b d hb hd => ?_⟩
  by_cases e : j = n
  · subst e
    rw [ha] at hb
    cases hb
    have hl : j < h.length := by
      rw [← S.len]
      rcases Nat.lt_or_ge j m.c.length with q | q
      · exact q
      · rw [List.getElem?_eq_none_iff.mpr q] at ha; cases ha
    rw [List.getElem?_set_self hl] at hd
    cases hd
    exact hc
  · rw [List.getElem?_set_ne (fun z => e z.symm)] at hd
    exact (S.at_ j b d hb hd).mono (Ext.write ha) (upd_ne fun z => e (nodup_at S.nd (by rw [← z]; exact hb) ha))
end

section
variable {K : PySem.W.Frag} {mg : Str → Option Value} {m : Mm} {H : Hp} {h : Hm} {p : Addr}
theorem Sim.hide {o : HO} (S : Sim K mg m H h) (hp : H p = none) : Sim K mg (m.hide p) (upd H p o) h :=
  ⟨S.len, S.nd, fun a ha => by
    rcases List.mem_cons.mp ha with rfl | ha
    · exact ⟨by rw [upd_same]; rfl, fun z => S.notin hp (Or.inl z)⟩
    · exact ⟨some_upd (S.pv a ha).1, (S.pv a ha).2⟩, fun n a c ha hc => (S.at_ n a c ha hc).mov (Mov.hide hp) (upd_ne fun e => S.notin hp (Mm.mem_c (by rw [← e]; exact List.mem_of_getElem? ha)))⟩
theorem Sim.show (S : Sim K mg (m.hide p) H h) : Sim K mg m H h :=
  ⟨S.len, S.nd, fun a ha => S.pv a (List.mem_cons_of_mem _ ha), fun n a c ha hc => (S.at_ n a c ha hc).mov Mov.show rfl⟩
theorem Sim.priv {o : HO} (S : Sim K mg m H h) (hp : p ∈ m.v) : Sim K mg m (upd H p o) h :=
  ⟨S.len, S.nd, fun a ha => ⟨some_upd (S.pv a ha).1, (S.pv a ha).2⟩, fun n a c ha hc => (S.at_ n a c ha hc).mov (Mov.priv hp) (upd_ne fun e => (S.pv p hp).2 (by rw [← e]; exact List.mem_of_getElem? ha))⟩
end

/-! ### what is wanted behind a mini run -/
/-- an exception that lies behind: its class, its own dict -/
def ExR (K : PySem.W.Frag) (mg : Str → Option Value) (m : Mm) (H : Hp) (e : Exn) (cv : Value) (dx : Option Addr) : Prop :=
  ∃ c, mg e.cls = some (.ref c) ∧ cv = .ref c ∧ match e.fld with
    | none => True
    | some (f, d) => ∃ a v, dx = some a ∧ H a = some (.xd [(f, v)]) ∧ Rep K mg m H d v
/-- the surroundings: the written part, the module's names, the wish about exceptions -/
structure Tx where
  K : PySem.W.Frag
  mg : Str → Option Value
  W : XK
def Post {α β : Type} (T : Tx) (m : Mm) (H : Hp) (rel : Mm → Hp → α → β → Prop) (r : R α) (Q : β → Hp → Prop) : Prop :=
  match r with
  | .ok a h' => ∀ m' H' b, Sim T.K T.mg m' H' h' → Ext m H m' H' → rel m' H' a b → Q b H'
  | .exc e h' => ∀ m' H' cv dx, Sim T.K T.mg m' H' h' → Ext m H m' H' → ExR T.K T.mg m' H' e cv dx → T.W cv dx H'
  | .bad => False
theorem Post.bnd {α β γ δ : Type} {T : Tx} {m : Mm} {H : Hp} {rel : Mm → Hp → α → β → Prop} {rel' : Mm → Hp → γ → δ → Prop} {f : M α} {g : α → M γ} {h : Hm} {Q : δ → Hp → Prop} {Q' : β → Hp → Prop}
    (hp : Post T m H rel' (bnd f g h) Q) (hQ : ∀ a h' m' H' b, f h = .ok a h' → Sim T.K T.mg m' H' h' → Ext m H m' H' → rel m' H' a b → Post T m' H' rel' (g a h') Q → Q' b H') : Post T m H rel (f h) Q' := by
  unfold MP.bnd at hp
  cases e : f h with
  | ok a h' =>
    rw [e] at hp
    intro m' H' b S X r
    refine hQ a h' m' H' b e S X r ?_
    have hp' : Post T m H rel' (g a h') Q := hp
    revert hp'
    cases g a h' with
    | ok c h2 => exact fun hp m2 H2 d S2 X2 r2 => hp m2 H2 d S2 (X.then S X2) r2
    | exc x h2 => exact fun hp m2 H2 cv dx S2 X2 r2 => hp m2 H2 cv dx S2 (X.then S X2) r2
    | bad => exact fun hp => hp
  | exc x h' => rw [e] at hp; exact hp
  | bad => rw [e] at hp; exact hp
theorem Post.ret {α β : Type} {T : Tx} {m : Mm} {H : Hp} {rel : Mm → Hp → α → β → Prop} {a : α} {h : Hm} {b : β} {Q : β → Hp → Prop} (hp : Post T m H rel (ret a h) Q) (S : Sim T.K T.mg m H h) (r : rel m H a b) : Q b H := hp m H b S Ext.refl r
theorem Post.mono {α β γ δ : Type} {T : Tx} {m : Mm} {H : Hp} {rel : Mm → Hp → α → β → Prop} {r : R α} {Q Q' : β → Hp → Prop} (hp : Post T m H rel r Q) (h : ∀ b H', Q b H' → Q' b H') : Post T m H rel r Q' := by
  cases r with
  | ok a h' => exact fun m' H' b S X r => h _ _ (hp m' H' b S X r)
  | exc e h' => exact hp
  | bad => exact hp

/-- the slots -/
structure EnvR (K : PySem.W.Frag) (mg : Str → Option Value) (m : Mm) (H : Hp) (μ : Ev) (σ : L2.St) : Prop where
  len : μ.length = σ.length
  at_ : ∀ (i : Nat) d, μ[i]? = some (some d) → ∃ v, σ[i]? = some (some v) ∧ Rep K mg m H d v
theorem EnvR.mov {K : PySem.W.Frag} {mg : Str → Option Value} {m m' : Mm} {H H' : Hp} {μ : Ev} {σ : L2.St} (E : Mov m H m' H') (h : EnvR K mg m H μ σ) : EnvR K mg m' H' μ σ :=
  ⟨h.len, fun i d q => let ⟨v, e, r⟩ := h.at_ i d q; ⟨v, e, Rep.mov E _ _ r⟩⟩
theorem EnvR.mono {K : PySem.W.Frag} {mg : Str → Option Value} {m m' : Mm} {H H' : Hp} {μ : Ev} {σ : L2.St} (E : Ext m H m' H') (h : EnvR K mg m H μ σ) : EnvR K mg m' H' μ σ := h.mov E.mov
theorem EnvR.set {K : PySem.W.Frag} {mg : Str → Option Value} {m : Mm} {H : Hp} {μ : Ev} {σ : L2.St} (h : EnvR K mg m H μ σ) {d : D} {v : V} (r : Rep K mg m H d v) (i : Nat) : EnvR K mg m H (μ.set i (some d)) (σ.set i (some v)) := by
  refine ⟨by simp [h.len], fun j e q => ?_⟩
  rw [List.getElem?_set] at q ⊢
  by_cases z : i = j
  · rw [if_pos z] at q ⊢
    by_cases l : i < μ.length
    · rw [if_pos l] at q
      rw [if_pos (by rw [← h.len]; exact l)]
      cases q
      exact ⟨v, rfl, r⟩
    · rw [if_neg l] at q; cases q
  · rw [if_neg z] at q ⊢
    exact h.at_ j e q
theorem EnvR.unset {K : PySem.W.Frag} {mg : Str → Option Value} {m : Mm} {H : Hp} {μ : Ev} {σ : L2.St} (h : EnvR K mg m H μ σ) (i : Nat) : EnvR K mg m H (μ.set i none) (σ.set i none) := by
  refine ⟨by simp [h.len], fun j e q => ?_⟩
  rw [List.getElem?_set] at q ⊢
  by_cases z : i = j
  · rw [if_pos z] at q
    by_cases l : i < μ.length
    · rw [if_pos l] at q; cases q
    · rw [if_neg l] at q; cases q
  · rw [if_neg z] at q ⊢
    exact h.at_ j e q
/-- slots forgotten on the mini side alone -/
theorem EnvR.forget {K : PySem.W.Frag} {mg : Str → Option Value} {m : Mm} {H : Hp} {μ : Ev} {σ : L2.St} (h : EnvR K mg m H μ σ) (i : Nat) : EnvR K mg m H (μ.set i none) σ := by
  refine ⟨by simp [h.len], fun j e q => ?_⟩
  rw [List.getElem?_set] at q
  by_cases z : i = j
  · rw [if_pos z] at q
    by_cases l : i < μ.length
    · rw [if_pos l] at q; cases q
    · rw [if_neg l] at q; cases q
  · rw [if_neg z] at q
    exact h.at_ j e q
end MP
/-! MP1: readings by mini functions; names, constants, operators, tests, displays. -/
namespace MP
open PySem PySem.Spec PyProof.Rows L2

/-! ### readings -/
abbrev RelB : Mm → Hp → Bool → Bool → Prop := fun _ _ a b => b = a
def rdE (T : Tx) (f : Ev → M D) : TE := fun σ H Q => ∃ μ m h, Sim T.K T.mg m H h ∧ EnvR T.K T.mg m H μ σ ∧ Post T m H (Rep T.K T.mg) (f μ h) Q
def rdT (T : Tx) (f : Ev → M Bool) : TT := fun σ H Q => ∃ μ m h, Sim T.K T.mg m H h ∧ EnvR T.K T.mg m H μ σ ∧ Post T m H RelB (f μ h) Q
def rdA (T : Tx) (f : Ev → M (List D)) : TA := fun σ H Q => ∃ μ m h, Sim T.K T.mg m H h ∧ EnvR T.K T.mg m H μ σ ∧ Post T m H (RepA T.K T.mg) (f μ h) Q

abbrev tx (X : Cx) (W : XK) : Tx := ⟨X.K, X.mg, W⟩
abbrev ES (X : Cx) (W : XK) (e : Expr) (f : Ev → M D) : Prop := PE X e (rdE (tx X W) f)
abbrev TsS (X : Cx) (W : XK) (e : Expr) (f : Ev → M Bool) : Prop := PT X e (rdT (tx X W) f)
abbrev AS (X : Cx) (W : XK) (es : List Expr) (f : Ev → M (List D)) : Prop := PA X es (rdA (tx X W) f)

theorem pe_imp {X : Cx} {e : Expr} {t t' : TE} (h : PE X e t) (w : ∀ σ H Q, t' σ H Q → t σ H Q) : PE X e t' := ⟨fun pins s σ H Q I q => h.run pins s σ H Q I (w σ H Q q)⟩
theorem pt_imp {X : Cx} {e : Expr} {t t' : TT} (h : PT X e t) (w : ∀ σ H Q, t' σ H Q → t σ H Q) : PT X e t' := ⟨fun pins s σ H Q I q => h.run pins s σ H Q I (w σ H Q q)⟩
theorem pa_imp {X : Cx} {e : List Expr} {t t' : TA} (h : PA X e t) (w : ∀ σ H Q, t' σ H Q → t σ H Q) : PA X e t' := ⟨fun pos pins s σ H Q I q => h.run pos pins s σ H Q I (w σ H Q q)⟩
theorem ps_imp {X : Cx} {e : Stmt} {t t' : TS} (h : PS X e t) (w : ∀ D σ H, t' D σ H → t D σ H) : PS X e t' := ⟨fun pins s σ H D I q => h.run pins s σ H D I (w D σ H q)⟩
theorem pss_imp {X : Cx} {e : List Stmt} {t t' : TS} (h : PSs X e t) (w : ∀ D σ H, t' D σ H → t D σ H) : PSs X e t' := ⟨fun pins s σ H D I q => h.run pins s σ H D I (w D σ H q)⟩

/-! ### mini steps -/
def chk {α : Type} (c : Prop) [Decidable c] (f : M α) : M α := fun h => if c then f h else .bad
def var (i : Nat) : Ev → M D := fun μ => match μ[i]? with
  | some (some d) => ret d
  | _ => bad
def cst (x : PyData) : Ev → M D := fun _ => ret (.p x)
def bin (g : D → D → M D) (fa fb : Ev → M D) : Ev → M D := fun μ => bnd (fa μ) fun x => bnd (fb μ) fun y => g x y
def un (g : D → M D) (fa : Ev → M D) : Ev → M D := fun μ => bnd (fa μ) g
def aNil : Ev → M (List D) := fun _ => ret []
def aCons (fa : Ev → M D) (fr : Ev → M (List D)) : Ev → M (List D) := fun μ => bnd (fa μ) fun x => bnd (fr μ) fun xs => ret (x :: xs)
def ifE (c : Ev → M Bool) (fa fb : Ev → M D) : Ev → M D := fun μ => bnd (c μ) fun b => if b = true then fa μ else fb μ
/-- a value's truth -/
def truD : D → M Bool
  | .p .none => ret false
  | .p (.bool b) => ret b
  | .p (.int i) => ret (i != 0)
  | .p (.str x) => chk (x.length ≤ sizeLine) (ret ((x.length : Int) != 0))
  | .p (.list xs) => ret (!xs.isEmpty)
  | .p (.tuple xs) => ret (!xs.isEmpty)
  | .cell n => fun h => match h[n]? with
    | some (.lst xs) => .ok (!xs.isEmpty) h
    | _ => .bad
  | _ => bad
def tst (f : Ev → M D) : Ev → M Bool := fun μ => bnd (f μ) truD
/-- a test whose value is a bool -/
def tstB (f : Ev → M D) : Ev → M Bool := fun μ => bnd (f μ) fun d => match d with
  | .p (.bool b) => ret b
  | _ => bad
def notT (c : Ev → M Bool) : Ev → M Bool := fun μ => bnd (c μ) fun b => ret (!b)
def andT (c d : Ev → M Bool) : Ev → M Bool := fun μ => bnd (c μ) fun b => if b = true then d μ else ret false
def orT (c d : Ev → M Bool) : Ev → M Bool := fun μ => bnd (c μ) fun b => if b = true then ret true else d μ
def notE (f : Ev → M D) : Ev → M D := fun μ => bnd (f μ) fun d => bnd (truD d) fun b => ret (.p (.bool (!b)))
def andE (f g : Ev → M D) : Ev → M D := fun μ => bnd (f μ) fun d => bnd (truD d) fun b => if b = true then g μ else ret d
def orE (f g : Ev → M D) : Ev → M D := fun μ => bnd (f μ) fun d => bnd (truD d) fun b => if b = true then ret d else g μ

/-- an operation on two values -/
def Op2 (X : Cx) (W : XK) (f : Value → Value → Sem Value) (g : D → D → M D) : Prop :=
  OpR X f fun v u H Q => ∃ m h x y, Sim X.K X.mg m H h ∧ Rep X.K X.mg m H x v ∧ Rep X.K X.mg m H y u ∧ Post (tx X W) m H (Rep X.K X.mg) (g x y h) Q

section
variable {X : Cx} {W : XK} {a b c e : Expr} {es rest : List Expr} {fa fb fc : Ev → M D} {pos : Pos}

theorem es_var (i : Nat) {x : Str} (hN : X.N[i]? = some x := by rfl) (hv : Vis X.env.scope x := by first | exact Or.inl rfl | exact Or.inr (Or.inl rfl) | exact Or.inr (Or.inr rfl)) (hd : (x == ("__debug__" : Str)) = false := by decide)
    (hcd : (x == ("__classdict__" : Str)) = false := by decide) : ES X W (.Name x pos) (var i) :=
  pe_imp (pe_var hN hv hd hcd) fun σ H Q ⟨μ, m, h, S, E, hp⟩ => by
    unfold var at hp
    cases q : μ[i]? with
    | none => rw [q] at hp; exact hp.elim
    | some o =>
      cases o with
      | none => rw [q] at hp; exact hp.elim
      | some d =>
        rw [q] at hp
        obtain ⟨v, hv, r⟩ := E.at_ i d q
        exact ⟨v, hv, Post.ret hp S r⟩
theorem es_int {i j} : ES X W (.Constant (.int i) j pos) (cst (.int i)) :=
  pe_imp pe_int fun σ H Q ⟨μ, m, h, S, E, hp⟩ => Post.ret hp S (by simp [Rep, RepP])
theorem es_bl {i j} : ES X W (.Constant (.bool i) j pos) (cst (.bool i)) :=
  pe_imp pe_bl fun σ H Q ⟨μ, m, h, S, E, hp⟩ => Post.ret hp S (by simp [Rep, RepP])
theorem es_non {j} : ES X W (.Constant .none j pos) (cst .none) :=
  pe_imp pe_non fun σ H Q ⟨μ, m, h, S, E, hp⟩ => Post.ret hp S (by simp [Rep, RepP])
theorem es_str {i j} : ES X W (.Constant (.str i) j pos) (cst (.str i)) :=
  pe_imp pe_str fun σ H Q ⟨μ, m, h, S, E, hp⟩ => Post.ret hp S (by simp [Rep, RepP])
/-- a constant of the module -/
theorem es_glob {x : Str} {v : V} {u : Value} (d : PyData) (hg : Gl X x) (hm : X.mg x = some u) (r : RelV v u) (rp : ∀ m H, RepP X.K m H d v) (hd : (x == ("__debug__" : Str)) = false := by decide) : ES X W (.Name x pos) (cst d) :=
  pe_imp (pe_glob hg hm r hd) fun σ H Q ⟨μ, m, h, S, E, hp⟩ => Post.ret hp S (by simp only [Rep]; exact rp m H)
/-- a def or class of the module as a value -/
theorem es_globD {x : Str} {f : Addr} (hg : Gl X x) (hm : X.mg x = some (.ref f)) (hd : (x == ("__debug__" : Str)) = false := by decide) : ES X W (.Name x pos) (fun _ => ret (.glob x)) :=
  pe_imp (pe_glob (v := .ref f) hg hm rfl hd) fun σ H Q ⟨μ, m, h, S, E, hp⟩ => Post.ret hp S (by simp only [Rep]; exact ⟨f, rfl, hm⟩)
/-- a built-in class as a value -/
theorem es_ty {x : Str} {n : String} (hg : Gl X x) (hm : X.mg x = none) (hv : bootBuiltins x = some (.type n)) (hn : x ≠ "__name__" := by decide) (hd : (x == ("__debug__" : Str)) = false := by decide) : ES X W (.Name x pos) (fun _ => ret (.ty n)) :=
  pe_imp (pe_bltn (v := .ty n) hg hm hv rfl hn hd) fun σ H Q ⟨μ, m, h, S, E, hp⟩ => Post.ret hp S (by simp only [Rep])

theorem rd_bin {g : D → D → M D} {σ : L2.St} {H : Hp} {Q : VK} (h : rdE (tx X W) (bin g fa fb) σ H Q) :
    rdE (tx X W) fa σ H fun v H1 => rdE (tx X W) fb σ H1 fun u H2 => ∃ m h x y, Sim X.K X.mg m H2 h ∧ Rep X.K X.mg m H2 x v ∧ Rep X.K X.mg m H2 y u ∧ Post (tx X W) m H2 (Rep X.K X.mg) (g x y h) Q := by
  obtain ⟨μ, m, h, S, E, hp⟩ := h
  exact ⟨μ, m, h, S, E, Post.bnd hp fun x h1 m1 H1 v _ S1 X1 r1 hp1 => ⟨μ, m1, h1, S1, E.mono X1, Post.bnd hp1 fun y h2 m2 H2 u _ S2 X2 r2 hp2 => ⟨m2, h2, x, y, S2, r1.mono X2, r2, hp2⟩⟩⟩
theorem es_bin {op : Operator} {g : D → D → M D} (ho : Op2 X W (binaryOp op) g) (ha : ES X W a fa) (hb : ES X W b fb) : ES X W (.BinOp a op b pos) (bin g fa fb) :=
  pe_imp (pe_op ho ha hb) fun σ H Q h => rd_bin h
theorem es_cmp {op : CmpOp} {g : D → D → M D} (ho : Op2 X W (compareOp op) g) (ha : ES X W a fa) (hb : ES X W b fb) (hm : behindInMarks op b = false) : ES X W (.Compare a [op] [b] pos) (bin g fa fb) :=
  pe_imp (pe_cmpR ho ha hb hm) fun σ H Q h => rd_bin h
theorem ts_cmp {op : CmpOp} {g : D → D → M D} (ho : Op2 X W (compareOp op) g) (ha : ES X W a fa) (hb : ES X W b fb) (hm : behindInMarks op b = false) : TsS X W (.Compare a [op] [b] pos) (tstB (bin g fa fb)) :=
  pt_imp (pt_cmpR ho ha hb hm) fun σ H Q ⟨μ, m, h, S, E, hp⟩ => by
    refine rd_bin ⟨μ, m, h, S, E, ?_⟩
    refine Post.bnd hp fun d h1 m1 H1 v _ S1 X1 r1 hp1 => ?_
    cases d with
    | p x =>
      cases x with
      | bool k =>
        simp only [Rep, RepP] at r1
        exact ⟨k, r1, Post.ret hp1 S1 rfl⟩
      | _ => exact hp1.elim
    | _ => exact hp1.elim
def chain (g g' : D → D → M D) (fa fb fc : Ev → M D) : Ev → M D := fun μ => bnd (fa μ) fun x => bnd (fb μ) fun y => bnd (g x y) fun z => match z with
  | .p (.bool k) => if k = true then bnd (fc μ) fun w => g' y w else ret (.p (.bool false))
  | _ => bad
theorem rd_chain {g g' : D → D → M D} {σ : L2.St} {H : Hp} {Q : VK} (h : rdE (tx X W) (chain g g' fa fb fc) σ H Q) :
    tChain (fun v u H Q => ∃ m h x y, Sim X.K X.mg m H h ∧ Rep X.K X.mg m H x v ∧ Rep X.K X.mg m H y u ∧ Post (tx X W) m H (Rep X.K X.mg) (g x y h) Q) (fun v u H Q => ∃ m h x y, Sim X.K X.mg m H h ∧ Rep X.K X.mg m H x v ∧ Rep X.K X.mg m H y u ∧ Post (tx X W) m H (Rep X.K X.mg) (g' x y h) Q)
      (rdE (tx X W) fa) (rdE (tx X W) fb) (rdE (tx X W) fc) σ H Q := by
  obtain ⟨μ, m, h, S, E, hp⟩ := h
  refine ⟨μ, m, h, S, E, Post.bnd hp fun x h1 m1 H1 v _ S1 X1 r1 hp1 => ⟨μ, m1, h1, S1, E.mono X1, Post.bnd hp1 fun y h2 m2 H2 u _ S2 X2 r2 hp2 => ⟨m2, h2, x, y, S2, r1.mono X2, r2, ?_⟩⟩⟩
  refine Post.bnd hp2 fun z h3 m3 H3 k _ S3 X3 r3 hp3 => ?_
  cases z with
  | p z =>
    cases z with
    | bool k =>
      simp only [Rep, RepP] at r3
      refine ⟨k, r3, ?_⟩
      cases k with
      | true => exact ⟨μ, m3, h3, S3, ((E.mono X1).mono X2).mono X3, Post.bnd hp3 fun w h4 m4 H4 t _ S4 X4 r4 hp4 => ⟨m4, h4, y, w, S4, (r2.mono X3).mono X4, r4, hp4⟩⟩
      | false => exact Post.ret hp3 S3 (by simp [Rep, RepP])
    | _ => exact hp3.elim
  | _ => exact hp3.elim
theorem es_chain {op op' : CmpOp} {g g' : D → D → M D} (ho : Op2 X W (compareOp op) g) (ho' : Op2 X W (compareOp op') g') (ha : ES X W a fa) (hb : ES X W b fb) (hc : ES X W c fc) (hm : lastMarks [op, op'] [b, c] = false := by with_unfolding_all rfl) :
    ES X W (.Compare a [op, op'] [b, c] pos) (chain g g' fa fb fc) := pe_imp (pe_chain ho ho' ha hb hc hm) fun σ H Q h => rd_chain h
theorem ts_chain {op op' : CmpOp} {g g' : D → D → M D} (ho : Op2 X W (compareOp op) g) (ho' : Op2 X W (compareOp op') g') (ha : ES X W a fa) (hb : ES X W b fb) (hc : ES X W c fc) (hm : lastMarks [op, op'] [b, c] = false := by with_unfolding_all rfl) :
    TsS X W (.Compare a [op, op'] [b, c] pos) (tstB (chain g g' fa fb fc)) := pt_imp (pt_chain ho ho' ha hb hc hm) fun σ H Q ⟨μ, m, h, S, E, hp⟩ => by
    refine rd_chain ⟨μ, m, h, S, E, ?_⟩
    refine Post.bnd hp fun d h1 m1 H1 v _ S1 X1 r1 hp1 => ?_
    cases d with
    | p x =>
      cases x with
      | bool k =>
        simp only [Rep, RepP] at r1
        exact ⟨k, r1, Post.ret hp1 S1 rfl⟩
      | _ => exact hp1.elim
    | _ => exact hp1.elim

theorem fzl_tru {K : PySem.W.Frag} {m : Mm} {H : Hp} {xs : List PyData} : ∀ {vs : List V}, RepPs K m H xs vs → xs.isEmpty = vs.isEmpty := fun {vs} h => by
  cases xs with
  | nil => simp only [RepPs] at h; rw [h]; rfl
  | cons x r => simp only [RepPs] at h; obtain ⟨v, r, rfl, _⟩ := h; rfl
theorem RepA.isEmpty {K : PySem.W.Frag} {mg : Str → Option Value} {m : Mm} {H : Hp} {xs : List D} {vs : List V} (h : RepA K mg m H xs vs) : xs.isEmpty = vs.isEmpty := by
  cases xs with
  | nil => simp only [RepA] at h; rw [h]; rfl
  | cons x r => simp only [RepA] at h; obtain ⟨v, r, rfl, _⟩ := h; rfl
/-- what a value's truth is -/
theorem tru_of {m : Mm} {H : Hp} {h : Hm} {d : D} {v : V} {Q : Bool → Hp → Prop} (S : Sim X.K X.mg m H h) (r : Rep X.K X.mg m H d v) (hp : Post (tx X W) m H RelB (truD d h) Q) : ∃ k, TruV X.K v H k ∧ Q k H := by
  cases d with
  | p x =>
    simp only [Rep] at r
    cases x with
    | none => simp only [RepP] at r; subst r; exact ⟨_, rfl, Post.ret hp S rfl⟩
    | bool b => simp only [RepP] at r; subst r; exact ⟨_, rfl, Post.ret hp S rfl⟩
    | int i => simp only [RepP] at r; subst r; exact ⟨_, rfl, Post.ret hp S rfl⟩
    | str x =>
      simp only [RepP] at r; subst r
      simp only [truD, chk] at hp
      by_cases q : x.length ≤ sizeLine
      · rw [if_pos q] at hp; exact ⟨_, ⟨q, rfl⟩, Post.ret hp S rfl⟩
      · rw [if_neg q] at hp; exact hp.elim
    | list xs =>
      simp only [RepP] at r
      obtain ⟨a, vs, rfl, f, r⟩ := r
      refine ⟨!vs.isEmpty, .inl ⟨vs, f.sq, rfl⟩, ?_⟩
      rw [← fzl_tru r]
      exact Post.ret hp S rfl
    | tuple xs =>
      simp only [RepP] at r
      obtain ⟨a, vs, rfl, f, r⟩ := r
      refine ⟨!vs.isEmpty, .inr (.inl ⟨vs, f.sq, rfl⟩), ?_⟩
      rw [← fzl_tru r]
      exact Post.ret hp S rfl
    | dict kvs => exact hp.elim
  | cell n =>
    simp only [truD] at hp
    cases q : h[n]? with
    | none => rw [q] at hp; exact hp.elim
    | some c =>
      rw [q] at hp
      cases c with
      | lst xs =>
        simp only [Rep] at r
        obtain ⟨a, rfl, ha⟩ := r
        obtain ⟨vs, e, rr⟩ := S.at_ n a _ ha q
        refine ⟨!vs.isEmpty, .inl ⟨vs, .of e, rfl⟩, ?_⟩
        rw [← rr.isEmpty]
        exact hp m H _ S Ext.refl rfl
      | _ => exact hp.elim
  | _ => exact hp.elim
/-- a value as a test -/
theorem ts_val (ha : ES X W a fa) (he : ∀ whole, isTrue a X.env whole = (do let v ← whole; standAt a.pos; holding [v] (truthy v)) := by intro _; rfl) : TsS X W a (tst fa) :=
  pt_imp (pt_truth ha he) fun σ H Q ⟨μ, m, h, S, E, hp⟩ => ⟨μ, m, h, S, E, Post.bnd hp fun d h1 m1 H1 v _ S1 X1 r1 hp1 => tru_of S1 r1 hp1⟩
theorem ts_not {f : Ev → M Bool} (ha : TsS X W a f) : TsS X W (.UnaryOp .Not a pos) (notT f) :=
  pt_imp (pt_not ha) fun σ H Q ⟨μ, m, h, S, E, hp⟩ => ⟨μ, m, h, S, E, Post.bnd hp fun d h1 m1 H1 v _ S1 X1 r1 hp1 => by
    subst r1; exact Post.ret hp1 S1 rfl⟩
abbrev WsS (X : Cx) (W : XK) (e : Expr) (f : Ev → M Bool) : Prop := PW X e (rdT (tx X W) f)
theorem ws_ts {f : Ev → M Bool} (h : WsS X W e f) : TsS X W e f := h.pt
theorem ws_one {op : BoolOp} {f : Ev → M Bool} (ha : TsS X W a f) (hop : op = .And ∨ op = .Or := by first | exact .inl rfl | exact .inr rfl) : WsS X W (.BoolOp op [a] pos) f := by
  rcases hop with rfl | rfl
  · exact pw_and1 ha
  · exact pw_or1 ha
theorem pw_imp {t t' : TT} (h : PW X e t) (w : ∀ σ H Q, t' σ H Q → t σ H Q) : PW X e t' := ⟨fun wh pins s σ H Q I q => h.run wh pins s σ H Q I (w σ H Q q)⟩
theorem ws_and {f g : Ev → M Bool} (ha : TsS X W a f) (hb : WsS X W (.BoolOp .And (b :: rest) pos) g) : WsS X W (.BoolOp .And (a :: b :: rest) pos) (andT f g) :=
  pw_imp (pw_and ha hb) fun σ H Q ⟨μ, m, h, S, E, hp⟩ => ⟨μ, m, h, S, E, Post.bnd hp fun d h1 m1 H1 v _ S1 X1 r1 hp1 => by
    subst r1
    cases v with
    | true => exact ⟨μ, m1, h1, S1, E.mono X1, hp1⟩
    | false => exact Post.ret hp1 S1 rfl⟩
theorem ws_or {f g : Ev → M Bool} (ha : TsS X W a f) (hb : WsS X W (.BoolOp .Or (b :: rest) pos) g) : WsS X W (.BoolOp .Or (a :: b :: rest) pos) (orT f g) :=
  pw_imp (pw_or ha hb) fun σ H Q ⟨μ, m, h, S, E, hp⟩ => ⟨μ, m, h, S, E, Post.bnd hp fun d h1 m1 H1 v _ S1 X1 r1 hp1 => by
    subst r1
    cases v with
    | true => exact Post.ret hp1 S1 rfl
    | false => exact ⟨μ, m1, h1, S1, E.mono X1, hp1⟩⟩
/-- and, or, not as values -/
theorem es_one {op : BoolOp} (ha : ES X W a fa) : ES X W (.BoolOp op [a] pos) fa := pe_one ha
theorem es_and (ha : ES X W a fa) (hb : ES X W (.BoolOp .And (b :: rest) pos) fb) : ES X W (.BoolOp .And (a :: b :: rest) pos) (andE fa fb) :=
  pe_imp (pe_andT ha hb) fun σ H Q ⟨μ, m, h, S, E, hp⟩ => ⟨μ, m, h, S, E, Post.bnd hp fun d h1 m1 H1 v _ S1 X1 r1 hp1 => by
    refine tru_of (Q := fun k H2 => if k = true then rdE (tx X W) fb σ H2 Q else Q v H2) S1 r1 (Post.bnd hp1 fun k h2 m2 H2 k' _ S2 X2 r2 hp2 => ?_)
    subst r2
    cases k' with
    | true => exact ⟨μ, m2, h2, S2, (E.mono X1).mono X2, hp2⟩
    | false => exact Post.ret hp2 S2 (r1.mono X2)⟩
theorem es_or (ha : ES X W a fa) (hb : ES X W (.BoolOp .Or (b :: rest) pos) fb) : ES X W (.BoolOp .Or (a :: b :: rest) pos) (orE fa fb) :=
  pe_imp (pe_orT ha hb) fun σ H Q ⟨μ, m, h, S, E, hp⟩ => ⟨μ, m, h, S, E, Post.bnd hp fun d h1 m1 H1 v _ S1 X1 r1 hp1 => by
    refine tru_of (Q := fun k H2 => if k = true then Q v H2 else rdE (tx X W) fb σ H2 Q) S1 r1 (Post.bnd hp1 fun k h2 m2 H2 k' _ S2 X2 r2 hp2 => ?_)
    subst r2
    cases k' with
    | true => exact Post.ret hp2 S2 (r1.mono X2)
    | false => exact ⟨μ, m2, h2, S2, (E.mono X1).mono X2, hp2⟩⟩
theorem es_not (ha : ES X W a fa) : ES X W (.UnaryOp .Not a pos) (notE fa) :=
  pe_imp (pe_notT ha) fun σ H Q ⟨μ, m, h, S, E, hp⟩ => ⟨μ, m, h, S, E, Post.bnd hp fun d h1 m1 H1 v _ S1 X1 r1 hp1 =>
    tru_of S1 r1 (Post.bnd hp1 fun k h2 m2 H2 k' _ S2 X2 r2 hp2 => by subst r2; exact Post.ret hp2 S2 (by simp [Rep, RepP]))⟩
theorem es_ifE {f : Ev → M Bool} (hc : TsS X W c f) (ha : ES X W a fa) (hb : ES X W b fb) : ES X W (.IfExp c a b pos) (ifE f fa fb) :=
  pe_imp (pe_ifExp hc ha hb) fun σ H Q ⟨μ, m, h, S, E, hp⟩ => ⟨μ, m, h, S, E, Post.bnd hp fun d h1 m1 H1 v _ S1 X1 r1 hp1 => by
    subst r1
    cases v with
    | true => exact ⟨μ, m1, h1, S1, E.mono X1, hp1⟩
    | false => exact ⟨μ, m1, h1, S1, E.mono X1, hp1⟩⟩

/-! ### argument lists, displays -/
theorem as_nil : AS X W [] aNil := pa_imp pa_nil fun σ H Q ⟨μ, m, h, S, E, hp⟩ => Post.ret hp S (by simp [RepA])
theorem as_cons {fr : Ev → M (List D)} (ha : ES X W e fa) (hr : AS X W es fr) (hs : starEach (e :: es) X.env = (false, eval e X.env) :: starEach es X.env := by rfl) : AS X W (e :: es) (aCons fa fr) :=
  pa_imp (pa_cons ha hr hs) fun σ H Q ⟨μ, m, h, S, E, hp⟩ => ⟨μ, m, h, S, E, Post.bnd hp fun x h1 m1 H1 v _ S1 X1 r1 hp1 => ⟨μ, m1, h1, S1, E.mono X1, Post.bnd hp1 fun xs h2 m2 H2 vs _ S2 X2 r2 hp2 =>
    Post.ret hp2 S2 (by simp only [RepA]; exact ⟨v, vs, rfl, r1.mono X2, r2⟩)⟩⟩

/-- all plain -/
def plain : List D → Option (List PyData)
  | [] => some []
  | .p x :: ds => (plain ds).map (x :: ·)
  | _ :: _ => none
theorem plain_rep {K : PySem.W.Frag} {mg : Str → Option Value} {m : Mm} {H : Hp} : ∀ {ds : List D} {xs : List PyData} {vs : List V}, plain ds = some xs → RepA K mg m H ds vs → RepPs K m H xs vs
  | [], xs, vs, e, r => by
    simp only [plain, Option.some.injEq] at e
    subst e
    simp only [RepA] at r
    simp only [RepPs]
    exact r
  | .p x :: ds, xs, vs, e, r => by
    simp only [plain, Option.map_eq_some_iff] at e
    obtain ⟨ys, e, rfl⟩ := e
    simp only [RepA, Rep] at r
    obtain ⟨v, r', rfl, h1, h2⟩ := r
    simp only [RepPs]
    exact ⟨v, r', rfl, h1, plain_rep e h2⟩
  | .cell _ :: _, _, _, e, _ => by simp [plain] at e
  | .mix _ :: _, _, _, e, _ => by simp [plain] at e
  | .glob _ :: _, _, _, e, _ => by simp [plain] at e
  | .ty _ :: _, _, _, e, _ => by simp [plain] at e
theorem RepA.length {K : PySem.W.Frag} {mg : Str → Option Value} {m : Mm} {H : Hp} : ∀ {ds : List D} {vs : List V}, RepA K mg m H ds vs → vs.length = ds.length
  | [], vs, h => by simp only [RepA] at h; rw [h]; rfl
  | d :: ds, vs, h => by
    simp only [RepA] at h
    obtain ⟨v, r, rfl, _, h2⟩ := h
    simp [RepA.length h2]
theorem RepPs.length {K : PySem.W.Frag} {m : Mm} {H : Hp} : ∀ {ds : List PyData} {vs : List V}, RepPs K m H ds vs → vs.length = ds.length
  | [], vs, h => by simp only [RepPs] at h; rw [h]; rfl
  | d :: ds, vs, h => by
    simp only [RepPs] at h
    obtain ⟨v, r, rfl, _, h2⟩ := h
    simp [RepPs.length h2]
/-- a tuple of written items -/
def mkTup (ds : List D) : M D := chk (ds.length ≤ sizeLine) (match plain ds with
  | some xs => ret (.p (.tuple xs))
  | none => ret (.mix ds))
def tupE (f : Ev → M (List D)) : Ev → M D := fun μ => bnd (f μ) mkTup
/-- a list of plain items, not to be changed -/
def mkLst (ds : List D) : M D := chk (ds.length ≤ sizeLine) (match plain ds with
  | some xs => ret (.p (.list xs))
  | none => bad)
def lstE (f : Ev → M (List D)) : Ev → M D := fun μ => bnd (f μ) mkLst
/-- a list that will be changed: a new cell -/
def newL (ds : List D) : M D := chk (ds.length ≤ sizeLine) fun h => .ok (.cell h.length) (h ++ [.lst ds])
def celE (f : Ev → M (List D)) : Ev → M D := fun μ => bnd (f μ) newL
theorem chk_post {α β : Type} {T : Tx} {m : Mm} {H : Hp} {rel : Mm → Hp → α → β → Prop} {c : Prop} [Decidable c] {f : M α} {h : Hm} {Q : β → Hp → Prop} (hp : Post T m H rel (chk c f h) Q) : c ∧ Post T m H rel (f h) Q := by
  unfold chk at hp
  by_cases q : c
  · rw [if_pos q] at hp; exact ⟨q, hp⟩
  · rw [if_neg q] at hp; exact hp.elim
/-- a new tuple -/
theorem mkTup_post {m : Mm} {H : Hp} {h : Hm} {ds : List D} {vs : List V} {Q : VK} (S : Sim X.K X.mg m H h) (r : RepA X.K X.mg m H ds vs) (hp : Post (tx X W) m H (Rep X.K X.mg) (mkTup ds h) Q) :
    vs.length ≤ sizeLine ∧ ∀ p, H p = none → Q (.ref p) (upd H p (.tup vs)) := by
  obtain ⟨hl, hp⟩ := chk_post hp
  refine ⟨by rw [r.length]; exact hl, fun p np => ?_⟩
  have X1 : Ext m H m (upd H p (.tup vs)) := Ext.new S np
  have S1 := S.new (o := .tup vs) np
  have fz : FzT X.K m (upd H p (.tup vs)) p vs := .inl ⟨.inl upd_same, S.notin np⟩
  cases q : plain ds with
  | some xs =>
    rw [q] at hp
    exact hp m _ _ S1 X1 (by simp only [Rep, RepP]; exact ⟨p, vs, rfl, fz, plain_rep q (r.mono X1)⟩)
  | none =>
    rw [q] at hp
    exact hp m _ _ S1 X1 (by simp only [Rep]; exact ⟨p, vs, rfl, fz, r.mono X1⟩)
theorem mkLst_post {m : Mm} {H : Hp} {h : Hm} {ds : List D} {vs : List V} {Q : VK} (S : Sim X.K X.mg m H h) (r : RepA X.K X.mg m H ds vs) (hp : Post (tx X W) m H (Rep X.K X.mg) (mkLst ds h) Q) :
    vs.length ≤ sizeLine ∧ ∀ p, H p = none → Q (.ref p) (upd H p (.lst vs)) := by
  obtain ⟨hl, hp⟩ := chk_post hp
  refine ⟨by rw [r.length]; exact hl, fun p np => ?_⟩
  have X1 : Ext m H m (upd H p (.lst vs)) := Ext.new S np
  have S1 := S.new (o := .lst vs) np
  have fz : FzL X.K m (upd H p (.lst vs)) p vs := .inl ⟨.inl upd_same, S.notin np⟩
  cases q : plain ds with
  | some xs =>
    rw [q] at hp
    exact hp m _ _ S1 X1 (by simp only [Rep, RepP]; exact ⟨p, vs, rfl, fz, plain_rep q (r.mono X1)⟩)
  | none => rw [q] at hp; exact hp.elim
theorem newL_post {m : Mm} {H : Hp} {h : Hm} {ds : List D} {vs : List V} {Q : VK} (S : Sim X.K X.mg m H h) (r : RepA X.K X.mg m H ds vs) (hp : Post (tx X W) m H (Rep X.K X.mg) (newL ds h) Q) :
    vs.length ≤ sizeLine ∧ ∀ p, H p = none → Q (.ref p) (upd H p (.lst vs)) := by
  obtain ⟨hl, hp⟩ := chk_post hp
  refine ⟨by rw [r.length]; exact hl, fun p np => ?_⟩
  have X1 : Ext m H (m.push p) (upd H p (.lst vs)) := Ext.push S np
  exact hp _ _ _ (S.push np ⟨vs, upd_same, r.mono X1⟩) X1 (by simp only [Rep]; exact ⟨p, rfl, S.push_at⟩)
theorem es_tup {k : Nat} {f : Ev → M (List D)} (h : AS X W es f) : ES X W (.Tuple es k pos) (tupE f) :=
  pe_imp (pe_tup h) fun σ H Q ⟨μ, m, h, S, E, hp⟩ => ⟨μ, m, h, S, E, Post.bnd hp fun ds h1 m1 H1 vs _ S1 X1 r1 hp1 => mkTup_post S1 r1 hp1⟩
theorem es_lst {f : Ev → M (List D)} (h : AS X W es f) : ES X W (.List es pos) (lstE f) :=
  pe_imp (pe_lst h) fun σ H Q ⟨μ, m, h, S, E, hp⟩ => ⟨μ, m, h, S, E, Post.bnd hp fun ds h1 m1 H1 vs _ S1 X1 r1 hp1 => mkLst_post S1 r1 hp1⟩
theorem es_cel {f : Ev → M (List D)} (h : AS X W es f) : ES X W (.List es pos) (celE f) :=
  pe_imp (pe_lst h) fun σ H Q ⟨μ, m, h, S, E, hp⟩ => ⟨μ, m, h, S, E, Post.bnd hp fun ds h1 m1 H1 vs _ S1 X1 r1 hp1 => newL_post S1 r1 hp1⟩
end
end MP
/-! MP2: values that are read now; operators, comparisons. -/
namespace MP
open PySem PySem.Spec PyProof.Rows L2

/-! ### what a value reads as now -/
def lookD (h : Hm) : D → Option PyData
  | .p x => some x
  | .cell n => match h[n]? with
    | some (.lst xs) => (plain xs).map .list
    | some (.dct kvs) => (plain (kvs.map (·.2))).map fun vs => .dict ((kvs.map (·.1)).zip vs)
    | _ => none
  | _ => none
/-- a dict that stands at a -/
def DicH (H : Hp) (a : Addr) (ks : List PyData) (vs : List V) : Prop :=
  (∃ kk : List (Key × V), Rd H a (.dK kk) ∧ kk.map (fun p => keyP p.1) = ks ∧ kk.map (·.2) = vs) ∨
    ∃ kk : List (List Key × V), Rd H a (.dT kk) ∧ kk.map (fun p => PyData.tuple (p.1.map keyP)) = ks ∧ kk.map (·.2) = vs
def RdP (K : PySem.W.Frag) (m : Mm) (H : Hp) : PyData → V → Prop
  | .list xs, v => ∃ a vs, v = .ref a ∧ SqL K H a vs ∧ RepPs K m H xs vs
  | .dict kvs, v => ∃ a vs, v = .ref a ∧ DicH H a (kvs.map (·.1)) vs ∧ RepPs K m H (kvs.map (·.2)) vs
  | x, v => RepP K m H x v
theorem repVs_iff {K : PySem.W.Frag} {m : Mm} {H : Hp} : ∀ {kvs : List (PyData × PyData)} {vs : List V}, RepVs K m H kvs vs ↔ RepPs K m H (kvs.map (·.2)) vs
  | [], vs => by simp only [RepVs, List.map_nil, RepPs]
  | (k, d) :: r, vs => by
    simp only [RepVs, List.map_cons, RepPs]
    constructor
    · rintro ⟨v, r, e, h1, h2⟩
      exact ⟨v, r, e, h1, repVs_iff.mp h2⟩
    · rintro ⟨v, r, e, h1, h2⟩
      exact ⟨v, r, e, h1, repVs_iff.mpr h2⟩
theorem RepP.rd {K : PySem.W.Frag} {m : Mm} {H : Hp} {x : PyData} {v : V} (r : RepP K m H x v) : RdP K m H x v := by
  cases x with
  | list xs =>
    simp only [RepP] at r
    obtain ⟨a, vs, e, f, r⟩ := r
    exact ⟨a, vs, e, f.sq, r⟩
  | dict kvs =>
    simp only [RepP] at r
    obtain ⟨a, vs, e, f, r⟩ := r
    exact ⟨a, vs, e, f.2, repVs_iff.mp r⟩
  | _ => exact r
theorem look_rd {K : PySem.W.Frag} {mg : Str → Option Value} {m : Mm} {H : Hp} {h : Hm} {d : D} {v : V} {x : PyData} (S : Sim K mg m H h) (r : Rep K mg m H d v) (e : lookD h d = some x) : RdP K m H x v := by
  cases d with
  | p y =>
    simp only [lookD, Option.some.injEq] at e
    subst e
    simp only [Rep] at r
    exact r.rd
  | cell n =>
    simp only [Rep] at r
    obtain ⟨a, rfl, ha⟩ := r
    simp only [lookD] at e
    cases q : h[n]? with
    | none => rw [q] at e; cases e
    | some c =>
      rw [q] at e
      have cr := S.at_ n a c ha q
      cases c with
      | lst xs =>
        simp only [Option.map_eq_some_iff] at e
        obtain ⟨ys, e, rfl⟩ := e
        obtain ⟨vs, hv, rv⟩ := cr
        exact ⟨a, vs, rfl, .of hv, plain_rep e rv⟩
      | dct kvs =>
        simp only [Option.map_eq_some_iff] at e
        obtain ⟨ys, e, rfl⟩ := e
        obtain ⟨vs, rv, hv⟩ := cr
        have rp := plain_rep e rv
        have hl : (kvs.map (·.1)).length = ys.length := by
          have h1 := rp.length
          have h2 := rv.length
          simp only [List.length_map] at h2 ⊢
          omega
        refine ⟨a, vs, rfl, ?_, ?_⟩
        · rw [List.map_fst_zip (Nat.le_of_eq hl)]
          exact hv.imp (fun ⟨kk, a, b⟩ => ⟨kk, .inl a, b⟩) fun ⟨kk, a, b⟩ => ⟨kk, .inl a, b⟩
        · rw [List.map_snd_zip (Nat.le_of_eq hl.symm)]
          exact rp
      | obj cls fs => cases e
  | mix xs => cases e
  | glob x => cases e
  | ty n => cases e

def rd1 {α : Type} (g : PyData → M α) (x : D) : M α := fun h => match lookD h x with
  | some p => g p h
  | none => .bad
def rd2 {α : Type} (g : PyData → PyData → M α) (x y : D) : M α := fun h => match lookD h x, lookD h y with
  | some p, some q => g p q h
  | _, _ => .bad
@[simp] theorem rd1_p {α : Type} (g : PyData → M α) (x : PyData) : rd1 g (.p x) = g x := rfl
@[simp] theorem rd2_p {α : Type} (g : PyData → PyData → M α) (x y : PyData) : rd2 g (.p x) (.p y) = g x y := rfl
theorem rd2_post {α β : Type} {T : Tx} {m : Mm} {H : Hp} {rel : Mm → Hp → α → β → Prop} {g : PyData → PyData → M α} {x y : D} {h : Hm} {v u : V} {Q : β → Hp → Prop} (S : Sim T.K T.mg m H h) (r1 : Rep T.K T.mg m H x v) (r2 : Rep T.K T.mg m H y u)
    (hp : Post T m H rel (rd2 g x y h) Q) : ∃ p q, RdP T.K m H p v ∧ RdP T.K m H q u ∧ Post T m H rel (g p q h) Q := by
  unfold rd2 at hp
  cases e1 : lookD h x with
  | none => rw [e1] at hp; exact hp.elim
  | some p =>
    cases e2 : lookD h y with
    | none => rw [e1, e2] at hp; exact hp.elim
    | some q =>
      rw [e1, e2] at hp
      exact ⟨p, q, look_rd S r1 e1, look_rd S r2 e2, hp⟩
theorem rd1_post {α β : Type} {T : Tx} {m : Mm} {H : Hp} {rel : Mm → Hp → α → β → Prop} {g : PyData → M α} {x : D} {h : Hm} {v : V} {Q : β → Hp → Prop} (S : Sim T.K T.mg m H h) (r1 : Rep T.K T.mg m H x v)
    (hp : Post T m H rel (rd1 g x h) Q) : ∃ p, RdP T.K m H p v ∧ Post T m H rel (g p h) Q := by
  unfold rd1 at hp
  cases e1 : lookD h x with
  | none => rw [e1] at hp; exact hp.elim
  | some p =>
    rw [e1] at hp
    exact ⟨p, look_rd S r1 e1, hp⟩

/-- an operator by a mini function on data -/
theorem op2_of {X : Cx} {W : XK} {f : Value → Value → Sem Value} {r : R2} {g : PyData → PyData → M D} (ho : OpR X f r)
    (hg : ∀ m H h p q v u Q, Sim X.K X.mg m H h → RdP X.K m H p v → RdP X.K m H q u → Post (tx X W) m H (Rep X.K X.mg) (g p q h) Q → r v u H Q) : Op2 X W f (rd2 g) := by
  intro pins s σ H x y v u Q I rx ry h
  obtain ⟨m, h0, d, e, S, r1, r2, hp⟩ := h
  obtain ⟨p, q, h1, h2, hp⟩ := rd2_post (T := tx X W) S r1 r2 hp
  exact ho pins s σ H x y v u Q I rx ry (hg m H h0 p q x y Q S h1 h2 hp)

/-! ### arithmetic, + -/
def addP : PyData → PyData → M D
  | .int i, .int j => ret (.p (.int (i + j)))
  | .str x, .str y => chk (x.length + y.length ≤ sizeLine) (ret (.p (.str (x ++ y))))
  | .list xs, .list ys => chk (xs.length + ys.length ≤ sizeLine) (ret (.p (.list (xs ++ ys))))
  | .tuple xs, .tuple ys => chk (xs.length + ys.length ≤ sizeLine) (ret (.p (.tuple (xs ++ ys))))
  | _, _ => bad
theorem RepPs.append {K : PySem.W.Frag} {m : Mm} {H : Hp} : ∀ {xs ys : List PyData} {vs us : List V}, RepPs K m H xs vs → RepPs K m H ys us → RepPs K m H (xs ++ ys) (vs ++ us)
  | [], ys, vs, us, h, g => by
    simp only [RepPs] at h
    subst h
    exact g
  | x :: xs, ys, vs, us, h, g => by
    simp only [RepPs] at h
    obtain ⟨v, r, rfl, h1, h2⟩ := h
    simp only [List.cons_append, RepPs]
    exact ⟨v, _, rfl, h1, RepPs.append h2 g⟩
/-- a new list of plain items, a new tuple -/
theorem new_lst {X : Cx} {W : XK} {m : Mm} {H : Hp} {h : Hm} {xs : List PyData} {vs : List V} {Q : VK} (S : Sim X.K X.mg m H h) (r : RepPs X.K m H xs vs) (hp : Post (tx X W) m H (Rep X.K X.mg) (ret (.p (.list xs)) h) Q) :
    ∀ p, H p = none → Q (.ref p) (upd H p (.lst vs)) := fun p np =>
  hp m _ _ (S.new np) (Ext.new S np) (by simp only [Rep, RepP]; exact ⟨p, vs, rfl, .inl ⟨.inl upd_same, S.notin np⟩, r.mono (Ext.new S np)⟩)
theorem new_tup {X : Cx} {W : XK} {m : Mm} {H : Hp} {h : Hm} {xs : List PyData} {vs : List V} {Q : VK} (S : Sim X.K X.mg m H h) (r : RepPs X.K m H xs vs) (hp : Post (tx X W) m H (Rep X.K X.mg) (ret (.p (.tuple xs)) h) Q) :
    ∀ p, H p = none → Q (.ref p) (upd H p (.tup vs)) := fun p np =>
  hp m _ _ (S.new np) (Ext.new S np) (by simp only [Rep, RepP]; exact ⟨p, vs, rfl, .inl ⟨.inl upd_same, S.notin np⟩, r.mono (Ext.new S np)⟩)
def rCatL (K : PySem.W.Frag) : R2 := fun x y H Q => ∃ l b xs ys, x = .ref l ∧ y = .ref b ∧ SqL K H l xs ∧ SqL K H b ys ∧ xs.length + ys.length ≤ sizeLine ∧ ∀ p, H p = none → Q (.ref p) (upd H p (.lst (xs ++ ys)))
theorem op_catL {X : Cx} : OpR X (binaryOp .Add) (rCatL X.K) := by
  intro pins s σ H x y v u Q I rx ry h
  obtain ⟨l, b, xs, ys, rfl, rfl, h1, h2, hz, q⟩ := h
  cases rx
  cases ry
  obtain ⟨as, r1, p1, z1⟩ := I.list h1
  obtain ⟨bs, r2, p2, z2⟩ := I.list h2
  have e1 := r1.length
  have e2 := r2.length
  obtain ⟨⟨c1, d1, k1, s1⟩, g1, w1, n1, t1⟩ := p1.isList
  obtain ⟨⟨c2, d2, k2, s2⟩, g2, w2, n2, t2⟩ := p2.isList
  simp only at w1 t1 w2 t2
  subst w1 t1 w2 t2
  have hz' : as.toArray.size + bs.toArray.size ≤ sizeLine := by simp only [List.size_toArray]; omega
  refine concat_meets ⟨_, g1, rfl⟩ ⟨_, g2, rfl⟩ noFill_list_add seq_list_add PySem.F.slot_list_add PySem.F.entry_list_add (PySem.F.args_list_add_2 _ _) (list_addW l b as.toArray bs.toArray n1 n2 d1 d2 s1 s2 hz') ⟨g1, g2, ?_⟩
  have ea : as.toArray ++ bs.toArray = (as ++ bs).toArray := by simp
  rw [ea]
  exact ⟨.ref _, _, I.lnew (t' := s.toks) (r1.append r2) (by rw [List.length_append]; exact hz), rfl, q _ I.fresh⟩
theorem o_add {X : Cx} {W : XK} : Op2 X W (binaryOp .Add) (rd2 addP) := by
  refine op2_of ((op_add.or op_add_str).or (op_catL.or op_catA)) fun m H h p q v u Q S r1 r2 hp => ?_
  cases p with
  | int i =>
    cases q with
    | int j =>
      simp only [RdP, RepP] at r1 r2
      exact .inl (.inl ⟨i, j, r1, r2, Post.ret hp S (by simp [Rep, RepP])⟩)
    | _ => exact hp.elim
  | str x =>
    cases q with
    | str y =>
      simp only [RdP, RepP] at r1 r2
      obtain ⟨hz, hp⟩ := chk_post hp
      exact .inl (.inr ⟨x, y, r1, r2, hz, Post.ret hp S (by simp [Rep, RepP])⟩)
    | _ => exact hp.elim
  | list xs =>
    cases q with
    | list ys =>
      obtain ⟨a, vs, rfl, s1, t1⟩ := r1
      obtain ⟨b, us, rfl, s2, t2⟩ := r2
      obtain ⟨hz, hp⟩ := chk_post hp
      exact .inr (.inl ⟨a, b, vs, us, rfl, rfl, s1, s2, by rw [t1.length, t2.length]; exact hz, new_lst S (t1.append t2) hp⟩)
    | _ => exact hp.elim
  | tuple xs =>
    cases q with
    | tuple ys =>
      simp only [RdP, RepP] at r1 r2
      obtain ⟨a, vs, rfl, s1, t1⟩ := r1
      obtain ⟨b, us, rfl, s2, t2⟩ := r2
      obtain ⟨hz, hp⟩ := chk_post hp
      refine .inr (.inr ⟨a, b, vs, us, rfl, rfl, s1.sq, s2.sq, by rw [t1.length, t2.length]; exact hz, fun e => ?_, fun e1 e2 => ?_, fun _ _ => new_tup S (t1.append t2) hp⟩)
      · subst e
        have : xs = [] := by
          have := t1.length
          cases xs with
          | nil => rfl
          | cons x r => simp at this
        subst this
        exact Post.ret hp S (by simp only [Rep, RepP, List.nil_append]; exact ⟨b, us, rfl, s2, t2⟩)
      · subst e2
        have : ys = [] := by
          have := t2.length
          cases ys with
          | nil => rfl
          | cons x r => simp at this
        subst this
        exact Post.ret hp S (by simp only [Rep, RepP, List.append_nil]; exact ⟨a, vs, rfl, s1, t1⟩)
    | _ => exact hp.elim
  | _ => exact hp.elim
def subP : PyData → PyData → M D
  | .int i, .int j => ret (.p (.int (i - j)))
  | _, _ => bad
theorem o_sub {X : Cx} {W : XK} : Op2 X W (binaryOp .Sub) (rd2 subP) := by
  refine op2_of op_sub fun m H h p q v u Q S r1 r2 hp => ?_
  cases p with
  | int i =>
    cases q with
    | int j =>
      simp only [RdP, RepP] at r1 r2
      exact ⟨i, j, r1, r2, Post.ret hp S (by simp [Rep, RepP])⟩
    | _ => exact hp.elim
  | _ => exact hp.elim
/-- n times a text -/
def strMul (x : Str) (n : Int) : Str := ⟨(List.replicate n.toNat x.cps.toList).flatten.toArray⟩
def mulP : PyData → PyData → M D
  | .int i, .int j => chk ((-(2 ^ 64) < i ∧ i < 2 ^ 64) ∨ (-(2 ^ 64) < j ∧ j < 2 ^ 64)) (ret (.p (.int (i * j))))
  | .str x, .int n => chk (n < 1000000 ∧ -1000000 < n ∧ x.length < 1000 ∧ x.length * n.toNat ≤ sizeLine) (ret (.p (.str (strMul x n))))
  | _, _ => bad
theorem foldl_cps (x : Array Nat) : ∀ (n : Nat) (acc : Array Nat), (List.replicate n x).foldl (· ++ ·) acc = (acc.toList ++ (List.replicate n x.toList).flatten).toArray
  | 0, acc => by simp
  | n + 1, acc => by
    rw [List.replicate_succ, List.foldl_cons, foldl_cps x n (acc ++ x)]
    simp [List.replicate_succ]
def rMulS : R2 := fun x y H Q => ∃ z n, x = .str z ∧ y = .int n ∧ (n < 1000000 ∧ -1000000 < n ∧ z.length < 1000 ∧ z.length * n.toNat ≤ sizeLine) ∧ Q (.str (strMul z n)) H
theorem op_mulS {X : Cx} : OpR X (binaryOp .Mult) rMulS := by
  intro pins s σ H x y v u Q I rx ry h
  obtain ⟨z, n, rfl, rfl, ⟨h1, h2, h3, h4⟩, q⟩ := h
  obtain ⟨t, rfl⟩ := rx
  obtain ⟨t', rfl⟩ := ry
  have e1 : (decide (n < -(2 ^ 63 : Int)) || decide (n ≥ 2 ^ 63)) = false := by
    rw [decide_eq_false (by omega), decide_eq_false (by omega)]; rfl
  refine PySem.P.mul_str e1 (fun a b => ?_) (fun a b => ?_) ?_
  · have hn : 1 ≤ n := by omega
    have : (1000000 : Int) ≤ (2 ^ 63 - 1) / n := (Int.le_ediv_iff_mul_le (by omega)).mpr (by omega)
    omega
  · unfold PySem.Builtin.Str.tooLong
    exact decide_eq_false (by omega)
  · have fin : ∀ y : Str, y = strMul z n → ∀ tk t0, EP X pins σ Q (.str y t0) { s with toks := tk } := fun y e tk t0 => ⟨.str (strMul z n), H, I.tok _, ⟨t0, by rw [e]⟩, q⟩
    by_cases c1 : n < 1
    · rw [if_pos c1]
      refine ⟨by decide, fin _ ?_ _ _⟩
      have : n.toNat = 0 := by omega
      unfold strMul
      rw [this]
      rfl
    · rw [if_neg c1]
      by_cases c2 : (n == 1 || z.length == 0) = true
      · rw [if_pos c2]
        refine fin _ ?_ _ _
        simp only [Bool.or_eq_true, beq_iff_eq] at c2
        unfold strMul
        rcases c2 with c2 | c2
        · subst c2
          simp
        · have e0 : z.cps.toList = [] := by
            have : z.cps.size = 0 := c2
            simpa using this
          rw [e0]
          have : (List.replicate n.toNat ([] : List Nat)).flatten = [] := by simp
          rw [this]
          cases z with
          | mk c =>
            simp only at e0
            simp at e0
            subst e0
            rfl
      · rw [if_neg c2]
        refine ⟨?_, fin _ ?_ _ _⟩
        · simp only [foldl_cps]
          show (_ : Nat) ≤ _
          simp only [List.nil_append, PySem.Str.length, List.size_toArray, List.length_flatten, List.map_replicate, List.sum_replicate_nat, Array.length_toList, Array.toList_empty]
          have : z.cps.size = z.length := rfl
          rw [this, Nat.mul_comm]
          exact h4
        · unfold strMul
          simp only [foldl_cps, Array.toList_empty, List.nil_append]
theorem o_mul {X : Cx} {W : XK} : Op2 X W (binaryOp .Mult) (rd2 mulP) := by
  refine op2_of (op_mul.or op_mulS) fun m H h p q v u Q S r1 r2 hp => ?_
  cases p with
  | int i =>
    cases q with
    | int j =>
      simp only [RdP, RepP] at r1 r2
      obtain ⟨hz, hp⟩ := chk_post hp
      exact .inl ⟨i, j, r1, r2, hz, Post.ret hp S (by simp [Rep, RepP])⟩
    | _ => exact hp.elim
  | str x =>
    cases q with
    | int j =>
      simp only [RdP, RepP] at r1 r2
      obtain ⟨hz, hp⟩ := chk_post hp
      exact .inr ⟨x, j, r1, r2, hz, Post.ret hp S (by simp [Rep, RepP])⟩
    | _ => exact hp.elim
  | _ => exact hp.elim
def divP : PyData → PyData → M D
  | .int i, .int j => chk (0 < j ∧ j < 1073741824) (ret (.p (.int (i / j))))
  | _, _ => bad
theorem o_div {X : Cx} {W : XK} : Op2 X W (binaryOp .FloorDiv) (rd2 divP) := by
  refine op2_of op_fdiv fun m H h p q v u Q S r1 r2 hp => ?_
  cases p with
  | int i =>
    cases q with
    | int j =>
      simp only [RdP, RepP] at r1 r2
      obtain ⟨hz, hp⟩ := chk_post hp
      exact ⟨i, j, r1, r2, hz, Post.ret hp S (by simp [Rep, RepP])⟩
    | _ => exact hp.elim
  | _ => exact hp.elim
def modP : PyData → PyData → M D
  | .int i, .int j => chk (0 < j) (ret (.p (.int (i % j))))
  | _, _ => bad
theorem o_mod {X : Cx} {W : XK} : Op2 X W (binaryOp .Mod) (rd2 modP) := by
  refine op2_of op_mod fun m H h p q v u Q S r1 r2 hp => ?_
  cases p with
  | int i =>
    cases q with
    | int j =>
      simp only [RdP, RepP] at r1 r2
      obtain ⟨hz, hp⟩ := chk_post hp
      exact ⟨i, j, r1, r2, hz, Post.ret hp S (by simp [Rep, RepP])⟩
    | _ => exact hp.elim
  | _ => exact hp.elim
def powP : PyData → PyData → M D
  | .int i, .int j => chk (0 ≤ j ∧ j ≤ 1000000 ∧ i.natAbs < 2 ^ 64) (ret (.p (.int (i ^ j.toNat))))
  | _, _ => bad
theorem o_pow {X : Cx} {W : XK} : Op2 X W (binaryOp .Pow) (rd2 powP) := by
  refine op2_of op_pow fun m H h p q v u Q S r1 r2 hp => ?_
  cases p with
  | int i =>
    cases q with
    | int j =>
      simp only [RdP, RepP] at r1 r2
      obtain ⟨hz, hp⟩ := chk_post hp
      exact ⟨i, j, r1, r2, hz, Post.ret hp S (by simp [Rep, RepP])⟩
    | _ => exact hp.elim
  | _ => exact hp.elim
def negD : D → M D
  | .p (.int i) => ret (.p (.int (-i)))
  | _ => bad
theorem es_neg {X : Cx} {W : XK} {a : Expr} {fa : Ev → M D} {pos : Pos} (ha : ES X W a fa) : ES X W (.UnaryOp .USub a pos) (un negD fa) :=
  pe_imp (pe_un un_neg ha) fun σ H Q ⟨μ, m, h, S, E, hp⟩ => ⟨μ, m, h, S, E, Post.bnd hp fun d h1 m1 H1 v _ S1 X1 r1 hp1 => by
    cases d with
    | p x =>
      cases x with
      | int i =>
        simp only [Rep, RepP] at r1
        exact ⟨i, r1, Post.ret hp1 S1 (by simp [Rep, RepP])⟩
      | _ => exact hp1.elim
    | _ => exact hp1.elim⟩

/-! ### comparisons -/
def ordP (f : Int → Int → Bool) (g : Str → Str → Bool) : PyData → PyData → M D
  | .int i, .int j => ret (.p (.bool (f i j)))
  | .str x, .str y => ret (.p (.bool (g x y)))
  | _, _ => bad
def intP (f : Int → Int → Bool) : PyData → PyData → M D
  | .int i, .int j => ret (.p (.bool (f i j)))
  | _, _ => bad
theorem o_ints {X : Cx} {W : XK} {op : CmpOp} {f : Int → Int → Bool} (ho : OpR X (compareOp op) (rI0 fun i j => .bl (f i j))) : Op2 X W (compareOp op) (rd2 (intP f)) := by
  refine op2_of ho fun m H h p q v u Q S r1 r2 hp => ?_
  cases p with
  | int i =>
    cases q with
    | int j =>
      simp only [RdP, RepP] at r1 r2
      exact ⟨i, j, r1, r2, Post.ret hp S (by simp [Rep, RepP])⟩
    | _ => exact hp.elim
  | _ => exact hp.elim
theorem o_le {X : Cx} {W : XK} : Op2 X W (compareOp .LtE) (rd2 (intP fun i j => decide (i ≤ j))) := o_ints op_le
theorem o_gt {X : Cx} {W : XK} : Op2 X W (compareOp .Gt) (rd2 (intP fun i j => decide (j < i))) := o_ints op_gt
theorem o_ge {X : Cx} {W : XK} : Op2 X W (compareOp .GtE) (rd2 (intP fun i j => decide (j ≤ i))) := o_ints op_ge
theorem o_lti {X : Cx} {W : XK} : Op2 X W (compareOp .Lt) (rd2 (intP fun i j => decide (i < j))) := o_ints op_lt
/-- data as Dp has it -/
def noDict (x : PyData) : Bool := !x.hasDict
mutual
theorem RepP.dp {K : PySem.W.Frag} {m : Mm} {H : Hp} : ∀ (x : PyData) (v : V), x.hasDict = false → RepP K m H x v → Dp K H v x
  | .none, v, _, r => by simp only [RepP] at r; subst r; exact .non
  | .bool b, v, _, r => by simp only [RepP] at r; subst r; exact .bl b
  | .int b, v, _, r => by simp only [RepP] at r; subst r; exact .int b
  | .str b, v, _, r => by simp only [RepP] at r; subst r; exact .str b
  | .list xs, v, e, r => by
    simp only [RepP] at r
    obtain ⟨a, vs, rfl, f, r⟩ := r
    exact .lst f.sq (RepPs.dp xs vs (by simpa only [PyData.hasDict] using e) r)
  | .tuple xs, v, e, r => by
    simp only [RepP] at r
    obtain ⟨a, vs, rfl, f, r⟩ := r
    exact .tup f.sq (RepPs.dp xs vs (by simpa only [PyData.hasDict] using e) r)
  | .dict kvs, v, e, _ => by simp [PyData.hasDict] at e
theorem RepPs.dp {K : PySem.W.Frag} {m : Mm} {H : Hp} : ∀ (xs : List PyData) (vs : List V), PyData.hasDictAll xs = false → RepPs K m H xs vs → DpAll K H vs xs
  | [], vs, _, r => by simp only [RepPs] at r; subst r; exact .nil
  | x :: xs, vs, e, r => by
    simp only [RepPs] at r
    obtain ⟨v, r, rfl, h1, h2⟩ := r
    simp only [PyData.hasDictAll, Bool.or_eq_false_iff] at e
    exact .cons (RepP.dp x v e.1 h1) (RepPs.dp xs r e.2 h2)
end
theorem RdP.dp {K : PySem.W.Frag} {m : Mm} {H : Hp} {x : PyData} {v : V} (e : x.hasDict = false) (r : RdP K m H x v) : Dp K H v x := by
  cases x with
  | list xs =>
    obtain ⟨a, vs, rfl, f, r⟩ := r
    exact .lst f (RepPs.dp xs vs (by simpa only [PyData.hasDict] using e) r)
  | dict kvs => simp [PyData.hasDict] at e
  | _ => exact RepP.dp (m := m) _ _ e r
/-- two texts -/
def twoS : PyData → PyData → Bool
  | .str _, .str _ => true
  | _, _ => false
/-- == of two texts, or of data without dicts, at most 64 deep -/
def eqP (neg : Bool) (x y : PyData) : M D := chk (twoS x y = true ∨ (SeqAt.shaped x = true ∧ SeqAt.shaped y = true)) (ret (.p (.bool (if neg then !PyData.eqv x y else PyData.eqv x y))))
theorem twoS_of : ∀ {x y : PyData}, twoS x y = true → ∃ a b, x = .str a ∧ y = .str b
  | .str a, .str b, _ => ⟨a, b, rfl, rfl⟩
theorem shaped_noDict {x : PyData} (h : SeqAt.shaped x = true) : x.hasDict = false := by
  have h' : (x.canLay0 && decide (x.depth ≤ 64)) = true := h
  simp only [Bool.and_eq_true] at h'
  exact PyData.hasDict_of_canLay x h'.1
theorem o_eq {X : Cx} {W : XK} {k : Nat} (hr : Room k X.A) : Op2 X W (compareOp .Eq) (rd2 (eqP false)) := by
  refine op2_of (op_eq.or (op_eqD hr.units)) fun m H h p q v u Q S r1 r2 hp => ?_
  obtain ⟨h1 | ⟨h1, h2⟩, hp⟩ := chk_post hp
  · obtain ⟨a, b, rfl, rfl⟩ := twoS_of h1
    simp only [RdP, RepP] at r1 r2
    subst r1 r2
    exact .inl ⟨rfl, Post.ret hp S (by simp only [Rep, RepP, PyData.eqv, dec_str]; rfl)⟩
  · exact .inr ⟨p, q, r1.dp (shaped_noDict h1), r2.dp (shaped_noDict h2), h1, h2, Post.ret hp S (by simp [Rep, RepP])⟩
theorem o_ne {X : Cx} {W : XK} {k : Nat} (hr : Room k X.A) : Op2 X W (compareOp .NotEq) (rd2 (eqP true)) := by
  refine op2_of (op_ne.or (op_neD hr.units)) fun m H h p q v u Q S r1 r2 hp => ?_
  obtain ⟨h1 | ⟨h1, h2⟩, hp⟩ := chk_post hp
  · obtain ⟨a, b, rfl, rfl⟩ := twoS_of h1
    simp only [RdP, RepP] at r1 r2
    subst r1 r2
    exact .inl ⟨rfl, Post.ret hp S (by simp only [Rep, RepP, PyData.eqv, dec_str]; rfl)⟩
  · exact .inr ⟨p, q, r1.dp (shaped_noDict h1), r2.dp (shaped_noDict h2), h1, h2, Post.ret hp S (by simp [Rep, RepP])⟩
/-- one sign, or a text, in a text -/
def inTxt (x y : Str) : Bool := !(Builtin.Str.occurrences y x 0 y.length 1).isEmpty
def isN : D → Bool
  | .p .none => true
  | _ => false
/-- is None: the right side None -/
def isND (neg : Bool) : D → D → M D := fun x y => match y with
  | .p .none => ret (.p (.bool (if neg then !isN x else isN x)))
  | _ => bad
theorem isN_v {K : PySem.W.Frag} {mg : Str → Option Value} {m : Mm} {H : Hp} {d : D} {v : V} (r : Rep K mg m H d v) : decide (v = .non) = isN d := by
  cases d with
  | p x =>
    simp only [Rep] at r
    cases x with
    | none => simp only [RepP] at r; subst r; rfl
    | bool b => simp only [RepP] at r; subst r; rfl
    | int b => simp only [RepP] at r; subst r; rfl
    | str b => simp only [RepP] at r; subst r; rfl
    | list xs => simp only [RepP] at r; obtain ⟨a, _, rfl, _⟩ := r; rfl
    | tuple xs => simp only [RepP] at r; obtain ⟨a, _, rfl, _⟩ := r; rfl
    | dict xs => simp only [RepP] at r; obtain ⟨a, _, rfl, _⟩ := r; rfl
  | cell n => simp only [Rep] at r; obtain ⟨a, rfl, _⟩ := r; rfl
  | mix n => simp only [Rep] at r; obtain ⟨a, _, rfl, _⟩ := r; rfl
  | glob n => simp only [Rep] at r; obtain ⟨a, rfl, _⟩ := r; rfl
  | ty n => simp only [Rep] at r; subst r; rfl
theorem o_isN {X : Cx} {W : XK} : Op2 X W (compareOp .Is) (isND false) := by
  intro pins s σ H x y v u Q I rx ry h
  obtain ⟨m, h0, d, e, S, r1, r2, hp⟩ := h
  refine op_isN pins s σ H x y v u Q I rx ry ?_
  cases e with
  | p e =>
    cases e with
    | none =>
      simp only [Rep, RepP] at r2
      refine ⟨r2, ?_⟩
      rw [isN_v r1]
      exact Post.ret hp S (by simp [Rep, RepP])
    | _ => exact hp.elim
  | _ => exact hp.elim
theorem o_notN {X : Cx} {W : XK} : Op2 X W (compareOp .IsNot) (isND true) := by
  intro pins s σ H x y v u Q I rx ry h
  obtain ⟨m, h0, d, e, S, r1, r2, hp⟩ := h
  refine op_notN pins s σ H x y v u Q I rx ry ?_
  cases e with
  | p e =>
    cases e with
    | none =>
      simp only [Rep, RepP] at r2
      refine ⟨r2, ?_⟩
      rw [isN_v r1]
      exact Post.ret hp S (by simp [Rep, RepP])
    | _ => exact hp.elim
  | _ => exact hp.elim
/-- is True, is False of two truths -/
def isBD (neg : Bool) : D → D → M D := fun x y => match x, y with
  | .p (.bool a), .p (.bool b) => ret (.p (.bool (if neg then !decide (a = b) else decide (a = b))))
  | _, _ => bad
theorem o_isB {X : Cx} {W : XK} : Op2 X W (compareOp .Is) (isBD false) := by
  intro pins s σ H x y v u Q I rx ry h
  obtain ⟨m, h0, d, e, S, r1, r2, hp⟩ := h
  refine op_isBl pins s σ H x y v u Q I rx ry ?_
  cases d with
  | p d =>
    cases d with
    | bool a =>
      cases e with
      | p e =>
        cases e with
        | bool b =>
          simp only [Rep, RepP] at r1 r2
          exact ⟨a, b, r1, r2, Post.ret hp S (by simp [Rep, RepP])⟩
        | _ => exact hp.elim
      | _ => exact hp.elim
    | _ => exact hp.elim
  | _ => exact hp.elim
theorem o_notB {X : Cx} {W : XK} : Op2 X W (compareOp .IsNot) (isBD true) := by
  intro pins s σ H x y v u Q I rx ry h
  obtain ⟨m, h0, d, e, S, r1, r2, hp⟩ := h
  refine op_notBl pins s σ H x y v u Q I rx ry ?_
  cases d with
  | p d =>
    cases d with
    | bool a =>
      cases e with
      | p e =>
        cases e with
        | bool b =>
          simp only [Rep, RepP] at r1 r2
          exact ⟨a, b, r1, r2, Post.ret hp S (by simp [Rep, RepP])⟩
        | _ => exact hp.elim
      | _ => exact hp.elim
    | _ => exact hp.elim
  | _ => exact hp.elim
end MP
/-! MP3: what data reads as in the machine's heap; built-ins by their values. -/
namespace MP
open PySem PySem.Spec PyProof.Rows L2

mutual
def hasList : PyData → Bool
  | .list _ => true
  | .tuple xs => hasListAll xs
  | .dict kvs => hasListKv kvs
  | _ => false
def hasListAll : List PyData → Bool
  | [] => false
  | x :: xs => hasList x || hasListAll xs
def hasListKv : List (PyData × PyData) → Bool
  | [] => false
  | (_, x) :: xs => hasList x || hasListKv xs
end
theorem hasListKv_eq : ∀ kvs : List (PyData × PyData), hasListKv kvs = hasListAll (kvs.map (·.2))
  | [] => rfl
  | (k, v) :: r => by simp only [hasListKv, List.map_cons, hasListAll, hasListKv_eq r]

theorem reads_key {h : Heap} {k : Key} {u : Value} (e : keyIs k u = true) : Reads h u (keyP k) [] := by
  rcases keyIs_shape e with ⟨i, t, rfl, rfl⟩ | ⟨x, t, rfl, rfl⟩
  · exact .int i t
  · exact .str x t
theorem reads_keys {P : Program} {w : World} {h : Heap} : ∀ {es : List DictEntry} {vs : List (Key × Value)}, Pairs (mixKind P w) es vs → ReadsAll h (es.map (·.key)) (vs.map fun p => keyP p.1) []
  | _, _, .nil => .nil
  | _, _, .cons h1 h2 t => .cons (as := []) (bs := []) (reads_key h1) (reads_keys t)
theorem pairs_vals {P : Program} {w : World} : ∀ {es : List DictEntry} {vs : List (Key × Value)}, Pairs (mixKind P w) es vs → es.map (·.val) = vs.map (·.2)
  | _, _, .nil => rfl
  | _, _, .cons h1 h2 t => by simp only [List.map_cons, h2, pairs_vals t]
theorem kv_keys : ∀ {kk : List (Key × V)} {vs : List (Key × Value)}, KV kk vs → kk.map (fun p => keyP p.1) = vs.map fun p => keyP p.1
  | _, _, .nil => rfl
  | _, _, .cons h t => by simp only [List.map_cons, h.1, kv_keys t]
theorem kv_vals : ∀ {kk : List (Key × V)} {vs : List (Key × Value)}, KV kk vs → Vals (kk.map (·.2)) (vs.map (·.2))
  | _, _, .nil => .nil
  | _, _, .cons h t => .cons h.2 (kv_vals t)
theorem reads_flat {h : Heap} : ∀ {ks : List Key} {us : List Value}, Vals (ks.map kV) us → ReadsAll h us (ks.map keyP) []
  | [], _, .nil => .nil
  | k :: ks, _, .cons r t => .cons (as := []) (bs := []) (by
      cases k with
      | inl i => obtain ⟨t, rfl⟩ := r; exact .int i t
      | inr x => obtain ⟨t, rfl⟩ := r; exact .str x t) (reads_flat t)

section
variable {X : Cx} {pins : List (Addr × Obj)} {σ : L2.St} {H : Hp} {s : Shared} {m : Mm}
theorem reads_tkeys (I : Inv X pins σ H s) : ∀ {kk : List (List Key × V)} {xs : List (List Key × Addr × Value)}, KT H kk xs → ReadsAll s.heap (xs.map fun x => Value.ref x.2.1) (kk.map fun p => PyData.tuple (p.1.map keyP)) []
  | _, _, .nil => .nil
  | (k, v) :: _, x :: _, .cons h t => by
    refine .cons (as := []) (bs := []) ?_ (reads_tkeys I t)
    obtain ⟨its, rv, ⟨o, ho, hc, n, hd⟩, _⟩ := I.tuple (SqT.of (K := X.K) h.2.1)
    exact .tuple ho hc hd (reads_flat rv)
theorem kt_vals {H : Hp} : ∀ {kk : List (List Key × V)} {xs : List (List Key × Addr × Value)}, KT H kk xs → Vals (kk.map (·.2)) (xs.map (·.2.2))
  | _, _, .nil => .nil
  | _, _, .cons h t => .cons h.2.2 (kt_vals t)
mutual
theorem RepP.reads (I : Inv X pins σ H s) : ∀ (x : PyData) (v : V) (u : Value), RepP X.K m H x v → RelV v u → ∃ as, Reads s.heap u x as ∧ (hasList x = false → ∀ b ∈ as, (b == sysModules) = false)
  | .none, v, u, h, r => by simp only [RepP] at h; subst h; cases r; exact ⟨_, .none, fun _ _ hb => by cases hb⟩
  | .bool b, v, u, h, r => by simp only [RepP] at h; subst h; cases r; exact ⟨_, .bool b, fun _ _ hb => by cases hb⟩
  | .int i, v, u, h, r => by simp only [RepP] at h; subst h; obtain ⟨t, rfl⟩ := r; exact ⟨_, .int i t, fun _ _ hb => by cases hb⟩
  | .str x, v, u, h, r => by simp only [RepP] at h; subst h; obtain ⟨t, rfl⟩ := r; exact ⟨_, .str x t, fun _ _ hb => by cases hb⟩
  | .list xs, v, u, h, r => by
    simp only [RepP] at h
    obtain ⟨a, vs, rfl, f, h⟩ := h
    cases r
    obtain ⟨its, rv, ⟨o, n, ho, hc, _, hd⟩, _⟩ := I.list f.sq
    obtain ⟨as, hr, _⟩ := RepPs.reads I xs vs its h rv
    exact ⟨_, .list ho hc hd hr, fun e => by simp [hasList] at e⟩
  | .tuple xs, v, u, h, r => by
    simp only [RepP] at h
    obtain ⟨a, vs, rfl, f, h⟩ := h
    cases r
    obtain ⟨its, rv, ⟨o, ho, hc, n, hd⟩, _⟩ := I.tuple f.sq
    obtain ⟨as, hr, ha⟩ := RepPs.reads I xs vs its h rv
    exact ⟨_, .tuple ho hc hd hr, fun e => ha (by simpa only [hasList] using e)⟩
  | .dict kvs, v, u, h, r => by
    simp only [RepP] at h
    obtain ⟨a, vs, rfl, ⟨_, f⟩, h⟩ := h
    cases r
    rcases f with ⟨kk, e, e1, e2⟩ | ⟨kk, e, e1, e2⟩
    · obtain ⟨_, hs, us, hkv, o, es, ep, ho, hx, hd, _, hp, _⟩ := dk_rd I.hok e
      subst e2
      obtain ⟨as, hr, ha⟩ := RepVs.reads I kvs _ (es.toList.map (·.val)) h (by rw [pairs_vals hp]; exact kv_vals hkv)
      refine ⟨_, .dict ho hx.1 hd (as := []) (by rw [← e1, kv_keys hkv]; exact reads_keys hp) hr, fun q b hb => ?_⟩
      simp only [List.append_nil, List.cons_append, List.nil_append, List.mem_cons] at hb
      rcases hb with rfl | hb
      · exact hs
      · exact ha (by simpa only [hasList] using q) b hb
    · obtain ⟨_, hs, us, hkv, o, es, ep, ho, hx, hd, he, _, _⟩ := dt_rd I.hok e
      subst e2
      obtain ⟨as, hr, ha⟩ := RepVs.reads I kvs _ (es.toList.map (·.val)) h (by rw [he, List.map_map]; exact kt_vals hkv)
      refine ⟨_, .dict ho hx.1 hd (as := []) (by rw [← e1, he, List.map_map]; exact reads_tkeys I hkv) hr, fun q b hb => ?_⟩
      simp only [List.append_nil, List.cons_append, List.nil_append, List.mem_cons] at hb
      rcases hb with rfl | hb
      · exact hs
      · exact ha (by simpa only [hasList] using q) b hb
theorem RepPs.reads (I : Inv X pins σ H s) : ∀ (xs : List PyData) (vs : List V) (us : List Value), RepPs X.K m H xs vs → Vals vs us → ∃ as, ReadsAll s.heap us xs as ∧ (hasListAll xs = false → ∀ b ∈ as, (b == sysModules) = false)
  | [], vs, us, h, r => by simp only [RepPs] at h; subst h; cases r; exact ⟨_, .nil, fun _ _ hb => by cases hb⟩
  | x :: xs, vs, us, h, r => by
    simp only [RepPs] at h
    obtain ⟨v, r', rfl, h1, h2⟩ := h
    cases r with
    | cons r1 r2 =>
      obtain ⟨as, q1, a1⟩ := RepP.reads I x v _ h1 r1
      obtain ⟨bs, q2, a2⟩ := RepPs.reads I xs r' _ h2 r2
      refine ⟨_, .cons q1 q2, fun e b hb => ?_⟩
      simp only [hasListAll, Bool.or_eq_false_iff] at e
      rcases List.mem_append.mp hb with hb | hb
      · exact a1 e.1 b hb
      · exact a2 e.2 b hb
theorem RepVs.reads (I : Inv X pins σ H s) : ∀ (xs : List (PyData × PyData)) (vs : List V) (us : List Value), RepVs X.K m H xs vs → Vals vs us → ∃ as, ReadsAll s.heap us (xs.map (·.2)) as ∧ (hasListKv xs = false → ∀ b ∈ as, (b == sysModules) = false)
  | [], vs, us, h, r => by simp only [RepVs] at h; subst h; cases r; exact ⟨_, .nil, fun _ _ hb => by cases hb⟩
  | (k, x) :: xs, vs, us, h, r => by
    simp only [RepVs] at h
    obtain ⟨v, r', rfl, h1, h2⟩ := h
    cases r with
    | cons r1 r2 =>
      obtain ⟨as, q1, a1⟩ := RepP.reads I x v _ h1 r1
      obtain ⟨bs, q2, a2⟩ := RepVs.reads I xs r' _ h2 r2
      refine ⟨_, .cons q1 q2, fun e b hb => ?_⟩
      simp only [hasListKv, Bool.or_eq_false_iff] at e
      rcases List.mem_append.mp hb with hb | hb
      · exact a1 e.1 b hb
      · exact a2 e.2 b hb
end
theorem RdP.reads (I : Inv X pins σ H s) {x : PyData} {v : V} {u : Value} (h : RdP X.K m H x v) (r : RelV v u) : ∃ as, Reads s.heap u x as ∧ (hasList x = false → ∀ b ∈ as, (b == sysModules) = false) := by
  cases x with
  | list xs =>
    obtain ⟨a, vs, rfl, f, h⟩ := h
    cases r
    obtain ⟨its, rv, ⟨o, n, ho, hc, _, hd⟩, _⟩ := I.list f
    obtain ⟨as, hr, _⟩ := RepPs.reads I xs vs its h rv
    exact ⟨_, .list ho hc hd hr, fun e => by simp [hasList] at e⟩
  | dict kvs =>
    obtain ⟨a, vs, rfl, f, h⟩ := h
    cases r
    have h' := repVs_iff.mpr h
    rcases f with ⟨kk, e, e1, e2⟩ | ⟨kk, e, e1, e2⟩
    · obtain ⟨_, hs, us, hkv, o, es, ep, ho, hx, hd, _, hp, _⟩ := dk_rd I.hok e
      subst e2
      obtain ⟨as, hr, ha⟩ := RepVs.reads I kvs _ (es.toList.map (·.val)) h' (by rw [pairs_vals hp]; exact kv_vals hkv)
      refine ⟨_, .dict ho hx.1 hd (as := []) (by rw [← e1, kv_keys hkv]; exact reads_keys hp) hr, fun q b hb => ?_⟩
      simp only [List.append_nil, List.cons_append, List.nil_append, List.mem_cons] at hb
      rcases hb with rfl | hb
      · exact hs
      · exact ha (by simpa only [hasList] using q) b hb
    · obtain ⟨_, hs, us, hkv, o, es, ep, ho, hx, hd, he, _, _⟩ := dt_rd I.hok e
      subst e2
      obtain ⟨as, hr, ha⟩ := RepVs.reads I kvs _ (es.toList.map (·.val)) h' (by rw [he, List.map_map]; exact kt_vals hkv)
      refine ⟨_, .dict ho hx.1 hd (as := []) (by rw [← e1, he, List.map_map]; exact reads_tkeys I hkv) hr, fun q b hb => ?_⟩
      simp only [List.append_nil, List.cons_append, List.nil_append, List.mem_cons] at hb
      rcases hb with rfl | hb
      · exact hs
      · exact ha (by simpa only [hasList] using q) b hb
  | none => exact RepP.reads (m := m) I _ _ _ h r
  | bool b => exact RepP.reads (m := m) I _ _ _ h r
  | int b => exact RepP.reads (m := m) I _ _ _ h r
  | str b => exact RepP.reads (m := m) I _ _ _ h r
  | tuple b => exact RepP.reads (m := m) I _ _ _ h r
end

/-! ### calls of built-ins -/
def CallS (X : Cx) (W : XK) (f : Value) (g : List D → M D) : Prop :=
  CallR X f fun vs H Q => ∃ m h ds, Sim X.K X.mg m H h ∧ RepA X.K X.mg m H ds vs ∧ Post (tx X W) m H (Rep X.K X.mg) (g ds h) Q
def app (g : List D → M D) (fa : Ev → M (List D)) : Ev → M D := fun μ => bnd (fa μ) g
section
variable {X : Cx} {W : XK} {e : Expr} {es : List Expr} {f : Ev → M (List D)} {x : Str} {p pos : Pos}
theorem es_callB {id : String} {g : List D → M D} (hc : CallS X W (.builtin id) g) (hg : Gl X x) (hm : X.mg x = none) (hv : bootBuiltins x = some (.builtin id)) (ha : AS X W (e :: es) f) (hn : x ≠ "__name__" := by decide) (hdb : (x == ("__debug__" : Str)) = false := by decide)
    (he : starEach (e :: es) X.env = (false, eval e X.env) :: starEach es X.env := by rfl) (hpl : (backTo pos (starEach es X.env)).any (·.1) = false := by rfl) : ES X W (.Call (.Name x p) (e :: es) [] pos) (app g f) :=
  pe_imp (pe_callB hc hg hm hv ha hn hdb he hpl) fun σ H Q ⟨μ, m, h, S, E, hp⟩ => ⟨μ, m, h, S, E, Post.bnd hp fun ds h1 m1 H1 vs _ S1 X1 r1 hp1 => ⟨m1, h1, ds, S1, r1, hp1⟩⟩
theorem es_callTy {T : String} {g : List D → M D} (hc : CallS X W (.type T) g) (hg : Gl X x) (hm : X.mg x = none) (hv : bootBuiltins x = some (.type T)) (ha : AS X W (e :: es) f) (hn : x ≠ "__name__" := by decide) (hdb : (x == ("__debug__" : Str)) = false := by decide)
    (he : starEach (e :: es) X.env = (false, eval e X.env) :: starEach es X.env := by rfl) (hpl : (backTo pos (starEach es X.env)).any (·.1) = false := by rfl) : ES X W (.Call (.Name x p) (e :: es) [] pos) (app g f) :=
  pe_imp (pe_callTy hc hg hm hv ha hn hdb he hpl) fun σ H Q ⟨μ, m, h, S, E, hp⟩ => ⟨μ, m, h, S, E, Post.bnd hp fun ds h1 m1 H1 vs _ S1 X1 r1 hp1 => ⟨m1, h1, ds, S1, r1, hp1⟩⟩
/-- one argument, read as data -/
def one (g : PyData → M D) : List D → M D
  | [d] => rd1 g d
  | _ => bad
theorem callS_one {f : Value} {r : List V → Hp → VK → Prop} {g : PyData → M D} (ho : CallR X f r)
    (hg : ∀ m H h q v Q, Sim X.K X.mg m H h → RdP X.K m H q v → Post (tx X W) m H (Rep X.K X.mg) (g q h) Q → r [v] H Q) : CallS X W f (one g) := by
  intro pins s σ H vs us Q I rv hh
  obtain ⟨m, h, ds, S, r, hp⟩ := hh
  cases ds with
  | nil => exact hp.elim
  | cons d ds =>
    cases ds with
    | cons _ _ => exact hp.elim
    | nil =>
      simp only [RepA] at r
      obtain ⟨v, _, rfl, r1, rfl⟩ := r
      obtain ⟨q, rq, hp⟩ := rd1_post (T := tx X W) S r1 hp
      exact ho pins s σ H [v] us Q I rv (hg m H h q v Q S rq hp)
/-! len -/
def lenP : PyData → M D
  | .str z => chk (z.length ≤ sizeLine) (ret (.p (.int z.length)))
  | .list xs => ret (.p (.int xs.length))
  | .tuple xs => ret (.p (.int xs.length))
  | _ => bad
theorem c_len : CallS X W (.builtin "len") (one lenP) := by
  refine callS_one (call_len_seq.or call_len_str) fun m H h q v Q S r hp => ?_
  cases q with
  | str z =>
    simp only [RdP, RepP] at r
    subst r
    obtain ⟨hz, hp⟩ := chk_post hp
    exact .inr ⟨z, rfl, hz, Post.ret hp S (by simp [Rep, RepP])⟩
  | list xs =>
    obtain ⟨a, vs, rfl, f, r⟩ := r
    refine .inl ⟨a, vs, rfl, .inl f, ?_⟩
    rw [r.length]
    exact Post.ret hp S (by simp [Rep, RepP])
  | tuple xs =>
    simp only [RdP, RepP] at r
    obtain ⟨a, vs, rfl, f, r⟩ := r
    refine .inl ⟨a, vs, rfl, .inr f.sq, ?_⟩
    rw [r.length]
    exact Post.ret hp S (by simp [Rep, RepP])
  | _ => exact hp.elim
/-! abs, int -/
def absP : PyData → M D
  | .int i => ret (.p (.int (if i < 0 then -i else i)))
  | _ => bad
theorem c_abs : CallS X W (.builtin "abs") (one absP) := by
  refine callS_one call_abs fun m H h q v Q S r hp => ?_
  cases q with
  | int i =>
    simp only [RdP, RepP] at r
    subst r
    exact ⟨i, rfl, Post.ret hp S (by simp [Rep, RepP])⟩
  | _ => exact hp.elim
def intOf : PyData → M D
  | .int i => ret (.p (.int i))
  | .bool k => ret (.p (.int (if k then 1 else 0)))
  | _ => bad
theorem c_int : CallS X W (.type "int") (one intOf) := by
  refine callS_one call_int1 fun m H h q v Q S r hp => ?_
  cases q with
  | int i =>
    simp only [RdP, RepP] at r
    subst r
    exact .inl ⟨i, rfl, Post.ret hp S (by simp [Rep, RepP])⟩
  | bool i =>
    simp only [RdP, RepP] at r
    subst r
    exact .inr ⟨i, rfl, Post.ret hp S (by simp [Rep, RepP])⟩
  | _ => exact hp.elim
/-! list(x): read only, or a cell -/
def listOf : PyData → M D
  | .list xs => ret (.p (.list xs))
  | .tuple xs => ret (.p (.list xs))
  | _ => bad
theorem c_list : CallS X W (.type "list") (one listOf) := by
  refine callS_one call_list_of fun m H h q v Q S r hp => ?_
  cases q with
  | list xs =>
    obtain ⟨a, vs, rfl, f, r⟩ := r
    exact ⟨a, vs, rfl, .inl f, new_lst S r hp⟩
  | tuple xs =>
    simp only [RdP, RepP] at r
    obtain ⟨a, vs, rfl, f, r⟩ := r
    exact ⟨a, vs, rfl, .inr f.sq, new_lst S r hp⟩
  | _ => exact hp.elim
def listOfC : PyData → M D
  | .list xs => fun h => .ok (.cell h.length) (h ++ [.lst (xs.map .p)])
  | .tuple xs => fun h => .ok (.cell h.length) (h ++ [.lst (xs.map .p)])
  | _ => bad
theorem repA_map {K : PySem.W.Frag} {mg : Str → Option Value} {m : Mm} {H : Hp} : ∀ {xs : List PyData} {vs : List V}, RepPs K m H xs vs → RepA K mg m H (xs.map .p) vs
  | [], vs, h => by simpa only [RepPs, List.map_nil, RepA] using h
  | x :: xs, vs, h => by
    simp only [RepPs] at h
    obtain ⟨v, r, rfl, h1, h2⟩ := h
    simp only [List.map_cons, RepA, Rep]
    exact ⟨v, r, rfl, h1, repA_map h2⟩
theorem new_cell {m : Mm} {H : Hp} {h : Hm} {ds : List D} {vs : List V} {Q : VK} (S : Sim X.K X.mg m H h) (r : RepA X.K X.mg m H ds vs) (hp : Post (tx X W) m H (Rep X.K X.mg) (.ok (.cell h.length) (h ++ [.lst ds])) Q) :
    ∀ p, H p = none → Q (.ref p) (upd H p (.lst vs)) := fun p np => by
  have X1 : Ext m H (m.push p) (upd H p (.lst vs)) := Ext.push S np
  exact hp _ _ _ (S.push np ⟨vs, upd_same, r.mono X1⟩) X1 (by simp only [Rep]; exact ⟨p, rfl, S.push_at⟩)
theorem c_listC : CallS X W (.type "list") (one listOfC) := by
  refine callS_one call_list_of fun m H h q v Q S r hp => ?_
  cases q with
  | list xs =>
    obtain ⟨a, vs, rfl, f, r⟩ := r
    exact ⟨a, vs, rfl, .inl f, new_cell S (repA_map r) hp⟩
  | tuple xs =>
    simp only [RdP, RepP] at r
    obtain ⟨a, vs, rfl, f, r⟩ := r
    exact ⟨a, vs, rfl, .inr f.sq, new_cell S (repA_map r) hp⟩
  | _ => exact hp.elim
/-! tuple(x) -/
def tupOf : PyData → M D
  | .list xs => ret (.p (.tuple xs))
  | .tuple xs => ret (.p (.tuple xs))
  | _ => bad
theorem c_tuple : CallS X W (.type "tuple") (one tupOf) := by
  refine callS_one call_tuple_of fun m H h q v Q S r hp => ?_
  cases q with
  | list xs =>
    obtain ⟨a, vs, rfl, f, r⟩ := r
    exact ⟨a, vs, rfl, .inl ⟨f, new_tup S r hp⟩⟩
  | tuple xs =>
    simp only [RdP, RepP] at r
    obtain ⟨a, vs, rfl, f, r⟩ := r
    exact ⟨a, vs, rfl, .inr ⟨f.sq, Post.ret hp S (by simp only [Rep, RepP]; exact ⟨a, vs, rfl, f, r⟩)⟩⟩
  | _ => exact hp.elim
/-! all, any of truths -/
def bools : List PyData → Option (List Bool)
  | [] => some []
  | .bool b :: r => (bools r).map (b :: ·)
  | _ :: _ => none
theorem bools_rep {K : PySem.W.Frag} {m : Mm} {H : Hp} : ∀ {xs : List PyData} {bs : List Bool} {vs : List V}, bools xs = some bs → RepPs K m H xs vs → vs = bs.map V.bl
  | [], bs, vs, e, r => by
    simp only [bools, Option.some.injEq] at e
    subst e
    simpa only [RepPs, List.map_nil] using r
  | .bool b :: xs, bs, vs, e, r => by
    simp only [bools, Option.map_eq_some_iff] at e
    obtain ⟨cs, e, rfl⟩ := e
    simp only [RepPs, RepP] at r
    obtain ⟨v, r', rfl, rfl, h2⟩ := r
    rw [bools_rep e h2]
    rfl
  | .none :: _, _, _, e, _ => by simp [bools] at e
  | .int _ :: _, _, _, e, _ => by simp [bools] at e
  | .str _ :: _, _, _, e, _ => by simp [bools] at e
  | .list _ :: _, _, _, e, _ => by simp [bools] at e
  | .tuple _ :: _, _, _, e, _ => by simp [bools] at e
  | .dict _ :: _, _, _, e, _ => by simp [bools] at e
def allP : PyData → M D
  | .list xs => match bools xs with
    | some bs => ret (.p (.bool (bs.all id)))
    | none => bad
  | _ => bad
def anyP : PyData → M D
  | .list xs => match bools xs with
    | some bs => ret (.p (.bool (bs.any id)))
    | none => bad
  | _ => bad
theorem c_all (hc : X.calm = true) : CallS X W (.builtin "all") (one allP) := by
  refine callS_one (cr_all hc) fun m H h q v Q S r hp => ?_
  cases q with
  | list xs =>
    obtain ⟨a, vs, rfl, f, r⟩ := r
    simp only [allP] at hp
    cases e : bools xs with
    | none => rw [e] at hp; exact hp.elim
    | some bs =>
      rw [e] at hp
      have := bools_rep e r
      subst this
      exact ⟨a, bs, rfl, f, Post.ret hp S (by simp [Rep, RepP])⟩
  | _ => exact hp.elim
theorem c_any (hc : X.calm = true) : CallS X W (.builtin "any") (one anyP) := by
  refine callS_one (cr_any hc) fun m H h q v Q S r hp => ?_
  cases q with
  | list xs =>
    obtain ⟨a, vs, rfl, f, r⟩ := r
    simp only [anyP] at hp
    cases e : bools xs with
    | none => rw [e] at hp; exact hp.elim
    | some bs =>
      rw [e] at hp
      have := bools_rep e r
      subst this
      exact ⟨a, bs, rfl, f, Post.ret hp S (by simp [Rep, RepP])⟩
  | _ => exact hp.elim
/-! repr -/
def okShow (x : PyData) : Prop := x.showable = true ∧ x.shown.length ≤ sizeLine ∧ x.depth ≤ 60 ∧ (x.hasDict = true → hasList x = false)
instance (x : PyData) : Decidable (okShow x) := by unfold okShow; infer_instance
def reprP (x : PyData) : M D := chk (okShow x) (ret (.p (.str x.shown)))
theorem call_reprD {k : Nat} (hr : Room k X.A) (hgd : X.A.guards = some []) : CallR X (.builtin "repr") fun vs H Q => ∃ v m x, vs = [v] ∧ RdP X.K m H x v ∧ okShow x ∧ Q (.str x.shown) H := by
  intro pins s σ H vs us Q I rv h
  obtain ⟨v, m, x, rfl, r, ⟨h1, h2, h3, h4⟩, q⟩ := h
  obtain ⟨u, rfl, ru⟩ := vals1 rv
  obtain ⟨as, rd, hsys⟩ := r.reads I ru
  have hu : X.A.units + 64 < cLine := hr.units
  have fin : ∀ h' t tk, (∀ b o, s.heap.get? b = some o → h'.get? b = some o) → EP X pins σ Q (.str x.shown t) { s with heap := h', toks := tk } := fun h' t tk k => ⟨.str x.shown, H, I.kept k, ⟨t, rfl⟩, q⟩
  cases rd with
  | none => exact PySem.P.repr_of_none (fin s.heap _ _ fun _ _ e => e)
  | bool b => exact PySem.P.repr_of_bool (fin s.heap _ _ fun _ _ e => e)
  | int i t => exact PySem.P.repr_of_int (of_decide_eq_true h1) (fin s.heap _ _ fun _ _ e => e)
  | str z t => exact PySem.P.repr_of_str (fin s.heap _ _ fun _ _ e => e) h2
  | list a1 a2 a3 a4 => exact repr_of_reads' (.list a1 a2 a3 a4) h1 (fun e z => absurd (hsys (h4 e) _ z) (by simp)) hgd (by omega) (fun _ _ e => e) fin h2
  | tuple a1 a2 a3 a4 => exact repr_of_reads' (.tuple a1 a2 a3 a4) h1 (fun e z => absurd (hsys (h4 e) _ z) (by simp)) hgd (by omega) (fun _ _ e => e) fin h2
  | dict a1 a2 a3 a4 a5 => exact repr_of_reads' (.dict a1 a2 a3 a4 a5) h1 (fun e z => absurd (hsys (h4 e) _ z) (by simp)) hgd (by omega) (fun _ _ e => e) fin h2
theorem c_repr {k : Nat} (hr : Room k X.A) (hgd : X.A.guards = some []) : CallS X W (.builtin "repr") (one reprP) := by
  refine callS_one (call_reprD hr hgd) fun m H h q v Q S r hp => ?_
  obtain ⟨hz, hp⟩ := chk_post hp
  exact ⟨v, m, q, rfl, r, hz, Post.ret hp S (by simp [Rep, RepP])⟩
/-! isinstance, a built-in class -/
def tyN (h : Hm) : D → Option String
  | .p .none => some "NoneType"
  | .p (.bool _) => some "bool"
  | .p (.int _) => some "int"
  | .p (.str _) => some "str"
  | .p (.list _) => some "list"
  | .p (.tuple _) => some "tuple"
  | .p (.dict _) => some "dict"
  | .mix _ => some "tuple"
  | .cell n => match h[n]? with
    | some (.lst _) => some "list"
    | some (.dct _) => some "dict"
    | _ => none
  | _ => none
def isiD : List D → M D
  | [x, .ty n] => fun h => match tyN h x with
    | some t => match kitB t n with
      | some b => .ok (.p (.bool b)) h
      | none => .bad
    | none => .bad
  | _ => bad
theorem fzL_ty {m : Mm} {H : Hp} {a : Addr} {vs : List V} (f : FzL X.K m H a vs) : TyX X.K H (.ref a) (.type "list") := by
  rcases f.sq with (h | ⟨o, h⟩) | ⟨o, its, n, h, hc, _⟩
  · exact .base (.lst h)
  · exact .base (.frz h)
  · exact .kList h hc
theorem fzT_ty {m : Mm} {H : Hp} {a : Addr} {vs : List V} (f : FzT X.K m H a vs) : TyX X.K H (.ref a) (.type "tuple") := by
  rcases f.sq with (h | ⟨o, h⟩) | ⟨o, its, n, h, hc, _⟩
  · exact .base (.tup h)
  · exact .fTuple h
  · exact .kTuple h hc
theorem tyN_of {m : Mm} {H : Hp} {h : Hm} {d : D} {v : V} {t : String} (S : Sim X.K X.mg m H h) (r : Rep X.K X.mg m H d v) (e : tyN h d = some t) (hd : ∀ kvs, d ≠ .p (.dict kvs)) : TyX X.K H v (.type t) := by
  cases d with
  | p x =>
    simp only [Rep] at r
    cases x with
    | none => simp only [RepP] at r; subst r; cases e; exact .base .non
    | bool b => simp only [RepP] at r; subst r; cases e; exact .base (.bl b)
    | int b => simp only [RepP] at r; subst r; cases e; exact .base (.int b)
    | str b => simp only [RepP] at r; subst r; cases e; exact .base (.str b)
    | list xs => simp only [RepP] at r; obtain ⟨a, vs, rfl, f, _⟩ := r; cases e; exact fzL_ty f
    | tuple xs => simp only [RepP] at r; obtain ⟨a, vs, rfl, f, _⟩ := r; cases e; exact fzT_ty f
    | dict kvs => exact absurd rfl (hd kvs)
  | cell n =>
    simp only [Rep] at r
    obtain ⟨a, rfl, ha⟩ := r
    simp only [tyN] at e
    cases q : h[n]? with
    | none => rw [q] at e; cases e
    | some c =>
      rw [q] at e
      have cr := S.at_ n a c ha q
      cases c with
      | lst xs => cases e; obtain ⟨vs, hv, _⟩ := cr; exact .base (.lst hv)
      | dct kvs =>
        cases e
        obtain ⟨vs, _, hv⟩ := cr
        rcases hv with ⟨kk, hv, _⟩ | ⟨kk, hv, _⟩
        · exact .base (.dK hv)
        · exact .base (.dT hv)
      | obj cls fs => cases e
  | mix xs => simp only [Rep] at r; obtain ⟨a, vs, rfl, f, _⟩ := r; cases e; exact fzT_ty f
  | glob x => cases e
  | ty n => cases e
/-- the dicts that are looked at are tracked ones -/
theorem tyN_dict {m : Mm} {H : Hp} {kvs : List (PyData × PyData)} {v : V} (r : RepP X.K m H (.dict kvs) v) : (∃ a, v = .ref a ∧ ∃ o, H a = some (.frz o (.dT []))) ∨ TyX X.K H v (.type "dict") ∨ ∃ a o kk, v = .ref a ∧ H a = some (.frz o (.dT kk)) := by
  simp only [RepP] at r
  obtain ⟨a, vs, rfl, ⟨_, f⟩, _⟩ := r
  rcases f with ⟨kk, (h | ⟨o, h⟩), _⟩ | ⟨kk, (h | ⟨o, h⟩), _⟩
  · exact .inr (.inl (.base (.dK h)))
  · exact .inr (.inl (.fDict h))
  · exact .inr (.inl (.base (.dT h)))
  · exact .inr (.inr ⟨a, o, kk, rfl, h⟩)
end
end MP
/-! MP4: isinstance, subscripts, slices, methods of built-in classes, in. -/
namespace MP
open PySem PySem.Spec PyProof.Rows L2
section
variable {X : Cx} {W : XK} {a b e o : Expr} {es : List Expr} {fa fb fo : Ev → M D} {f : Ev → M (List D)} {pos : Pos}

theorem kit_rep {pins : List (Addr × Obj)} {σ : L2.St} {H : Hp} {s : Shared} {m : Mm} {h : Hm} {d : D} {v : V} {u : Value} {t : String} (I : Inv X pins σ H s) (S : Sim X.K X.mg m H h) (r : Rep X.K X.mg m H d v) (rx : RelV v u) (e : tyN h d = some t) :
    ∃ P : Heap → Prop, PySem.W.KitX X.K u (.type t) P ∧ P s.heap ∧ u ≠ .builtin "__main__.__loader__#opaque" := by
  by_cases hd : ∀ kvs, d ≠ .p (.dict kvs)
  · exact kit_of I rx (tyN_of S r e hd)
  · simp only [Classical.not_forall, Classical.not_not] at hd
    obtain ⟨kvs, rfl⟩ := hd
    simp only [tyN, Option.some.injEq] at e
    subst e
    simp only [Rep, RepP] at r
    obtain ⟨a, vs, rfl, ⟨_, f⟩, _⟩ := r
    cases rx
    rcases f with ⟨kk, e, _⟩ | ⟨kk, e, _⟩
    · obtain ⟨_, _, us, _, o, es, ep, ho, hx, _⟩ := dk_rd I.hok e
      exact ⟨_, PySem.W.kitx_dict, ⟨o, ho, hx.1⟩, fun z => nomatch z⟩
    · obtain ⟨_, _, us, _, o, es, ep, ho, hx, _⟩ := dt_rd I.hok e
      exact ⟨_, PySem.W.kitx_dict, ⟨o, ho, hx.1⟩, fun z => nomatch z⟩
theorem c_isi : CallS X W (.builtin "isinstance") isiD := by
  intro pins s σ H vs us Q I rv hh
  obtain ⟨m, h, ds, S, r, hp⟩ := hh
  unfold isiD at hp
  split at hp
  · rename_i x n
    simp only [RepA] at r
    obtain ⟨v, _, rfl, r1, w, _, rfl, r2, rfl⟩ := r
    obtain ⟨u1, u2, rfl, q1, q2⟩ := vals2 rv
    simp only [Rep] at r2
    subst r2
    cases q2
    cases e1 : tyN h x with
    | none => rw [e1] at hp; exact hp.elim
    | some t =>
      rw [e1] at hp
      simp only at hp
      cases e2 : kitB t n with
      | none => rw [e2] at hp; exact hp.elim
      | some k =>
        rw [e2] at hp
        obtain ⟨P, Z, p, hx⟩ := kit_rep I S r1 q1 e1
        exact PySem.W.kia_one Z I.kIn p (kit_ty e2) hx fun tk => ⟨.bl k, H, I.tok tk, rfl, hp m H _ S Ext.refl (by simp [Rep, RepP])⟩
  · exact hp.elim
/-- isinstance's answers -/
def isiT (t n : String) : Bool := t == n || (t == "bool" && n == "int")
theorem kitB_some : ∀ t ∈ ["NoneType", "bool", "int", "str", "list", "tuple", "dict"], ∀ n ∈ ["bool", "int", "str", "list", "tuple", "dict"], kitB t n = some (isiT t n) := by decide +kernel
theorem tyN_mem {h : Hm} {d : D} {t : String} (e : tyN h d = some t) : t ∈ ["NoneType", "bool", "int", "str", "list", "tuple", "dict"] := by
  cases d with
  | p x => cases x <;> cases e <;> decide
  | cell n =>
    simp only [tyN] at e
    split at e
    · cases e; decide
    · cases e; decide
    · cases e
  | mix xs => cases e; decide
  | glob x => cases e
  | ty n => cases e
theorem isiD_eq {h : Hm} {d : D} {t n : String} (e : tyN h d = some t) (hn : n ∈ ["bool", "int", "str", "list", "tuple", "dict"] := by decide) : isiD [d, .ty n] h = .ok (.p (.bool (isiT t n))) h := by
  simp only [isiD, e, kitB_some t (tyN_mem e) n hn]

/-! ### subscripts -/
def atP (xs : List PyData) (i : Int) : M D := match atI xs i with
  | some x => ret (.p x)
  | none => bad
def idxD (x i : D) : M D := match i with
  | .p (.int i) => (match x with
    | .p (.list xs) => atP xs i
    | .p (.tuple xs) => atP xs i
    | .p (.str z) => chk (z.length ≤ sizeLine) (match atI z.cps.toList i with
      | some c => ret (.p (.str ⟨#[c]⟩))
      | none => bad)
    | .mix xs => (match atI xs i with
      | some x => ret x
      | none => bad)
    | .cell n => fun h => match h[n]? with
      | some (.lst xs) => (match atI xs i with
        | some x => .ok x h
        | none => .bad)
      | _ => .bad
    | _ => bad)
  | _ => bad
theorem repPs_at {K : PySem.W.Frag} {m : Mm} {H : Hp} : ∀ {xs : List PyData} {vs : List V} {j : Nat} {x : PyData}, RepPs K m H xs vs → xs[j]? = some x → ∃ v, vs[j]? = some v ∧ RepP K m H x v
  | [], _, _, _, _, e => by simp at e
  | y :: ys, vs, 0, x, r, e => by
    simp only [RepPs] at r
    obtain ⟨v, r', rfl, h1, _⟩ := r
    simp only [List.getElem?_cons_zero, Option.some.injEq] at e
    subst e
    exact ⟨v, rfl, h1⟩
  | y :: ys, vs, j + 1, x, r, e => by
    simp only [RepPs] at r
    obtain ⟨v, r', rfl, _, h2⟩ := r
    obtain ⟨w, q, z⟩ := repPs_at (j := j) h2 (by simpa using e)
    exact ⟨w, by simpa using q, z⟩
theorem repA_at {K : PySem.W.Frag} {mg : Str → Option Value} {m : Mm} {H : Hp} : ∀ {xs : List D} {vs : List V} {j : Nat} {x : D}, RepA K mg m H xs vs → xs[j]? = some x → ∃ v, vs[j]? = some v ∧ Rep K mg m H x v
  | [], _, _, _, _, e => by simp at e
  | y :: ys, vs, 0, x, r, e => by
    simp only [RepA] at r
    obtain ⟨v, r', rfl, h1, _⟩ := r
    simp only [List.getElem?_cons_zero, Option.some.injEq] at e
    subst e
    exact ⟨v, rfl, h1⟩
  | y :: ys, vs, j + 1, x, r, e => by
    simp only [RepA] at r
    obtain ⟨v, r', rfl, _, h2⟩ := r
    obtain ⟨w, q, z⟩ := repA_at (j := j) h2 (by simpa using e)
    exact ⟨w, by simpa using q, z⟩
theorem atI_of {α β : Type} {xs : List α} {ys : List β} (hl : ys.length = xs.length) {i : Int} {x : α} (e : atI xs i = some x) (P : β → Prop) (h : ∀ j : Nat, xs[j]? = some x → ∃ y, ys[j]? = some y ∧ P y) : ∃ y, atI ys i = some y ∧ P y := by
  unfold atI at e ⊢
  rw [hl]
  cases q : ixN xs.length i with
  | none => rw [q] at e; cases e
  | some j =>
    rw [q] at e
    obtain ⟨y, h1, h2⟩ := h j e
    exact ⟨y, h1, h2⟩
def Ix2 (X : Cx) (W : XK) (g : D → D → M D) : Prop :=
  IxR X fun v u H Q => ∃ m h x y, Sim X.K X.mg m H h ∧ Rep X.K X.mg m H x v ∧ Rep X.K X.mg m H y u ∧ Post (tx X W) m H (Rep X.K X.mg) (g x y h) Q
theorem ix_imp {r r' : R2} (h : IxR X r) (w : ∀ x y H Q, r' x y H Q → r x y H Q) : IxR X r' := fun value slice pins s σ H x y v u Q I rx ry q => h value slice pins s σ H x y v u Q I rx ry (w x y H Q q)
theorem ix_seqD : Ix2 X W idxD := by
  refine ix_imp ix_seq fun v u H Q ⟨m, h, x, y, S, r1, r2, hp⟩ => ?_
  unfold idxD at hp
  split at hp
  · rename_i i
    simp only [Rep, RepP] at r2
    subst r2
    split at hp
    · rename_i xs
      simp only [Rep, RepP] at r1
      obtain ⟨a, vs, rfl, f, r⟩ := r1
      unfold atP at hp
      cases e : atI xs i with
      | none => rw [e] at hp; exact hp.elim
      | some x =>
        rw [e] at hp
        obtain ⟨w, q, rw⟩ := atI_of r.length e _ fun j => repPs_at r
        exact .inl ⟨a, vs, i, w, rfl, rfl, f.sq, q, Post.ret hp S (by simp only [Rep]; exact rw)⟩
    · rename_i xs
      simp only [Rep, RepP] at r1
      obtain ⟨a, vs, rfl, f, r⟩ := r1
      unfold atP at hp
      cases e : atI xs i with
      | none => rw [e] at hp; exact hp.elim
      | some x =>
        rw [e] at hp
        obtain ⟨w, q, rw⟩ := atI_of r.length e _ fun j => repPs_at r
        exact .inr (.inl ⟨a, vs, i, w, rfl, rfl, f.sq, q, Post.ret hp S (by simp only [Rep]; exact rw)⟩)
    · rename_i z
      simp only [Rep, RepP] at r1
      subst r1
      obtain ⟨hz, hp⟩ := chk_post hp
      cases e : atI z.cps.toList i with
      | none => rw [e] at hp; exact hp.elim
      | some c =>
        rw [e] at hp
        exact .inr (.inr ⟨z, i, c, rfl, rfl, hz, e, Post.ret hp S (by simp [Rep, RepP])⟩)
    · rename_i xs
      simp only [Rep] at r1
      obtain ⟨a, vs, rfl, f, r⟩ := r1
      cases e : atI xs i with
      | none => rw [e] at hp; exact hp.elim
      | some x =>
        rw [e] at hp
        obtain ⟨w, q, rw⟩ := atI_of r.length e _ fun j => repA_at r
        exact .inr (.inl ⟨a, vs, i, w, rfl, rfl, f.sq, q, Post.ret hp S rw⟩)
    · rename_i n
      simp only [Rep] at r1
      obtain ⟨a, rfl, ha⟩ := r1
      cases q : h[n]? with
      | none => rw [q] at hp; exact hp.elim
      | some c =>
        rw [q] at hp
        cases c with
        | lst xs =>
          obtain ⟨vs, hv, r⟩ := S.at_ n a _ ha q
          simp only at hp
          cases e : atI xs i with
          | none => rw [e] at hp; exact hp.elim
          | some x =>
            rw [e] at hp
            obtain ⟨w, q, rw⟩ := atI_of r.length e _ fun j => repA_at r
            exact .inl ⟨a, vs, i, w, rfl, rfl, .of hv, q, hp m H _ S Ext.refl rw⟩
        | _ => exact hp.elim
    · exact hp.elim
  · exact hp.elim
theorem es_ix {g : D → D → M D} (hi : Ix2 X W g) (ha : ES X W a fa) (hb : ES X W b fb) (hs : PlainIx b := by exact fun _ _ => rfl) : ES X W (.Subscript a b pos) (bin g fa fb) :=
  pe_imp (pe_ix hi ha hb hs) fun σ H Q h => rd_bin h

/-! ### slices -/
def cutP {α : Type} (xs : List α) (lo hi : Option Int) : List α := (xs.drop (HT.sIx xs.length 0 lo)).take (HT.sIx xs.length xs.length hi - HT.sIx xs.length 0 lo)
def cutStr (z : Str) (lo hi : Option Int) : Str := ⟨(cutP z.cps.toList lo hi).toArray⟩
def slcP (lo hi : Option Int) : PyData → M D
  | .list xs => ret (.p (.list (cutP xs lo hi)))
  | .tuple xs => ret (.p (.tuple (cutP xs lo hi)))
  | .str z => chk (z.length ≤ sizeLine) (ret (.p (.str (cutStr z lo hi))))
  | _ => bad
theorem RepPs.take {K : PySem.W.Frag} {m : Mm} {H : Hp} : ∀ {xs : List PyData} {vs : List V} (n : Nat), RepPs K m H xs vs → RepPs K m H (xs.take n) (vs.take n)
  | [], vs, n, r => by simp only [RepPs] at r; subst r; simp [RepPs]
  | x :: xs, vs, 0, r => by simp [RepPs]
  | x :: xs, vs, n + 1, r => by
    simp only [RepPs] at r
    obtain ⟨v, r', rfl, h1, h2⟩ := r
    simp only [List.take_succ_cons, RepPs]
    exact ⟨v, _, rfl, h1, RepPs.take n h2⟩
theorem RepPs.drop {K : PySem.W.Frag} {m : Mm} {H : Hp} : ∀ {xs : List PyData} {vs : List V} (n : Nat), RepPs K m H xs vs → RepPs K m H (xs.drop n) (vs.drop n)
  | [], vs, n, r => by simp only [RepPs] at r; subst r; simp [RepPs]
  | x :: xs, vs, 0, r => by simpa using r
  | x :: xs, vs, n + 1, r => by
    simp only [RepPs] at r
    obtain ⟨v, r', rfl, h1, h2⟩ := r
    simp only [List.drop_succ_cons]
    exact RepPs.drop n h2
theorem RepPs.cut {K : PySem.W.Frag} {m : Mm} {H : Hp} {xs : List PyData} {vs : List V} (lo hi : Option Int) (r : RepPs K m H xs vs) : RepPs K m H (cutP xs lo hi) (cutV vs lo hi) := by
  unfold cutP cutV
  rw [← r.length]
  exact (r.drop _).take _
/-- a slice's part -/
def partE (f : Ev → M D) : Ev → M (Option Int) := fun μ => bnd (f μ) fun d => match d with
  | .p (.int i) => ret (some i)
  | _ => bad
def partN : Ev → M (Option Int) := fun _ => ret none
abbrev RelO1 : Mm → Hp → Option Int → Option Int → Prop := fun _ _ a b => b = a
def rdO (T : Tx) (f : Ev → M (Option Int)) : TO := fun σ H Q => ∃ μ m h, Sim T.K T.mg m H h ∧ EnvR T.K T.mg m H μ σ ∧ Post T m H RelO1 (f μ h) Q
abbrev OS (X : Cx) (W : XK) (e : Option Expr) (f : Ev → M (Option Int)) : Prop := PO X e (rdO (tx X W) f)
theorem po_imp {e : Option Expr} {t t' : TO} (h : PO X e t) (w : ∀ σ H Q, t' σ H Q → t σ H Q) : PO X e t' := ⟨fun pins s σ H Q I q => h.run pins s σ H Q I (w σ H Q q)⟩
theorem os_none : OS X W none partN := po_imp po_none fun σ H Q ⟨μ, m, h, S, E, hp⟩ => Post.ret hp S rfl
theorem os_some (he : ES X W e fa) : OS X W (some e) (partE fa) := po_imp (po_some he) fun σ H Q ⟨μ, m, h, S, E, hp⟩ => ⟨μ, m, h, S, E, Post.bnd hp fun d h1 m1 H1 v _ S1 X1 r1 hp1 => by
    cases d with
    | p x =>
      cases x with
      | int i =>
        simp only [Rep, RepP] at r1
        exact ⟨i, r1, Post.ret hp1 S1 rfl⟩
      | _ => exact hp1.elim
    | _ => exact hp1.elim⟩
def slcE (fa : Ev → M D) (fl fh : Ev → M (Option Int)) : Ev → M D := fun μ => bnd (fa μ) fun x => bnd (fl μ) fun lo => bnd (fh μ) fun hi => rd1 (slcP lo hi) x
theorem cutS_eq (z : Str) (lo hi : Option Int) : cutS z lo hi = cutStr z lo hi := by
  unfold cutS cutStr cutP
  have e : z.cps.toList.length = z.length := by simp [PySem.Str.length]
  rw [e]
theorem es_slc {lo hi : Option Expr} {fl fh : Ev → M (Option Int)} {p2 : Pos} (ha : ES X W a fa) (hl : OS X W lo fl) (hh : OS X W hi fh) : ES X W (.Subscript a (.Slice lo hi none p2) pos) (slcE fa fl fh) :=
  pe_imp (pe_slice (sl_list.or (sl_tupA.or sl_str)) ha hl hh) fun σ H Q ⟨μ, m, h, S, E, hp⟩ => ⟨μ, m, h, S, E, Post.bnd hp fun x h1 m1 H1 v _ S1 X1 r1 hp1 =>
    ⟨μ, m1, h1, S1, E.mono X1, Post.bnd hp1 fun l h2 m2 H2 l' _ S2 X2 r2 hp2 => ⟨μ, m2, h2, S2, (E.mono X1).mono X2, Post.bnd hp2 fun u h3 m3 H3 u' _ S3 X3 r3 hp3 => by
      subst r2 r3
      obtain ⟨q, r, hp4⟩ := rd1_post (T := tx X W) S3 ((r1.mono X2).mono X3) hp3
      unfold slcP at hp4
      split at hp4
      · obtain ⟨a, vs, rfl, f, r⟩ := r
        exact .inl ⟨a, vs, rfl, f, new_lst S3 (r.cut _ _) hp4⟩
      · rename_i xs
        simp only [RdP, RepP] at r
        obtain ⟨a, vs, rfl, f, r⟩ := r
        refine .inr (.inl ⟨a, vs, rfl, f.sq, fun e => ?_, fun _ => new_tup S3 (r.cut _ _) hp4⟩)
        have : cutP xs l' u' = xs := by
          unfold cutP
          rw [← r.length, e.1, e.2, r.length]
          simp
        rw [this] at hp4
        exact Post.ret hp4 S3 (by simp only [Rep, RepP]; exact ⟨a, vs, rfl, f, r⟩)
      · simp only [RdP, RepP] at r
        subst r
        obtain ⟨hz, hp4⟩ := chk_post hp4
        refine .inr (.inr ⟨_, rfl, hz, ?_⟩)
        rw [cutS_eq]
        exact Post.ret hp4 S3 (by simp [Rep, RepP])
      · exact hp4.elim⟩⟩⟩

/-! ### methods of built-in classes -/
def isTyD (T : String) (h : Hm) : D → Bool
  | .p (.str _) => T == "str"
  | .p (.list _) => T == "list"
  | .cell n => (match h[n]? with
    | some (.lst _) => T == "list"
    | some (.dct _) => T == "dict"
    | _ => false)
  | _ => false
def tyOk (T : String) (x : D) : M Unit := fun h => if isTyD T h x = true then .ok () h else .bad
def meth (T : String) (g : D → List D → M D) (fo : Ev → M D) (fa : Ev → M (List D)) : Ev → M D := fun μ => bnd (fo μ) fun x => bnd (tyOk T x) fun _ => bnd (fa μ) fun xs => g x xs
def MetS (X : Cx) (W : XK) (id : String) (g : D → List D → M D) : Prop :=
  MtR X id fun v vs H Q => ∃ m h x xs, Sim X.K X.mg m H h ∧ Rep X.K X.mg m H x v ∧ RepA X.K X.mg m H xs vs ∧ Post (tx X W) m H (Rep X.K X.mg) (g x xs h) Q
theorem tyV_of {m : Mm} {H : Hp} {h : Hm} {x : D} {v : V} {T : String} (S : Sim X.K X.mg m H h) (r : Rep X.K X.mg m H x v) (e : isTyD T h x = true) : tyV X.K T v H := by
  unfold isTyD at e
  split at e
  · simp only [Rep, RepP] at r; subst r; exact beq_iff_eq.mp e
  · simp only [Rep, RepP] at r
    obtain ⟨a, vs, rfl, f, _⟩ := r
    exact .inl ⟨beq_iff_eq.mp e, vs, f.sq⟩
  · rename_i n
    simp only [Rep] at r
    obtain ⟨a, rfl, ha⟩ := r
    split at e
    · rename_i xs q
      obtain ⟨vs, hv, _⟩ := S.at_ n a _ ha q
      exact .inl ⟨beq_iff_eq.mp e, vs, .of hv⟩
    · rename_i kvs q
      obtain ⟨vs, _, hv⟩ := S.at_ n a _ ha q
      exact .inr (.inr (.inl ⟨beq_iff_eq.mp e, hv.imp (fun ⟨kk, z, _⟩ => ⟨kk, z⟩) fun ⟨kk, z, _⟩ => ⟨kk, z⟩⟩))
    · cases e
  · cases e
theorem rd_meth {T id : String} {r : V → List V → Hp → VK → Prop} {g : D → List D → M D} {σ : L2.St} {H : Hp} {Q : VK} (hr : ∀ v vs H Q, (∃ m h x xs, Sim X.K X.mg m H h ∧ Rep X.K X.mg m H x v ∧ RepA X.K X.mg m H xs vs ∧ Post (tx X W) m H (Rep X.K X.mg) (g x xs h) Q) → r v vs H Q)
    (h : rdE (tx X W) (meth T g fo f) σ H Q) : tBM X.K T r (rdE (tx X W) fo) (rdA (tx X W) f) σ H Q := by
  obtain ⟨μ, m, h, S, E, hp⟩ := h
  refine ⟨μ, m, h, S, E, Post.bnd hp fun x h1 m1 H1 v _ S1 X1 r1 hp1 => ?_⟩
  by_cases q : isTyD T h1 x = true
  · have e0 : tyOk T x h1 = .ok () h1 := by unfold tyOk; rw [if_pos q]
    unfold bnd at hp1
    rw [e0] at hp1
    refine ⟨tyV_of S1 r1 q, μ, m1, h1, S1, E.mono X1, Post.bnd (f := f μ) (g := fun xs => g x xs) hp1 fun xs h2 m2 H2 vs _ S2 X2 r2 hp2 => ?_⟩
    exact hr _ _ _ _ ⟨m2, h2, x, xs, S2, r1.mono X2, r2, hp2⟩
  · have e0 : tyOk T x h1 = .bad := by unfold tyOk; rw [if_neg q]
    unfold bnd at hp1
    rw [e0] at hp1
    exact hp1.elim
theorem es_meth {T id : String} {g : D → List D → M D} {name : Str} {apos cpos : Pos} (pa : PlainAttrs T) (slot : Slot T name id) (hty : typeOf (.builtin id) = pure (.type "method_descriptor")) (hm : MetS X W id g) (ho : ES X W o fo) (ha : AS X W (e :: es) f)
    (hbase : attributeBase o name X.env (eval o X.env) = eval o X.env := by rfl)
    (hfew : ((backTo cpos (starEach (e :: es) X.env)).all (fun x => !x.1) && (backToKw cpos (keywordEach [] X.env)).all (fun x => x.1.isSome) && decide ((e :: es).length + ([] : List Keyword).length + (if ([] : List Keyword).isEmpty then 0 else 1) < 30)) = true := by rfl)
    (hline : (apos.endLine == cpos.line) = true := by rfl) (hs : starEach (e :: es) X.env = (false, eval e X.env) :: starEach es X.env := by rfl) (hplain : (backTo cpos (starEach es X.env)).any (·.1) = false := by rfl) :
    ES X W (.Call (.Attribute o name apos) (e :: es) [] cpos) (meth T g fo f) :=
  pe_imp (pe_bm pa slot hty hm ho ha hbase hfew hline hs hplain) fun σ H Q h => rd_meth (id := id) (fun _ _ _ _ q => q) h
theorem es_meth0 {T id : String} {g : D → List D → M D} {name : Str} {apos cpos : Pos} (pa : PlainAttrs T) (slot : Slot T name id) (hty : typeOf (.builtin id) = pure (.type "method_descriptor")) (hm : MetS X W id g) (ho : ES X W o fo)
    (hbase : attributeBase o name X.env (eval o X.env) = eval o X.env := by rfl) (hline : (apos.endLine == cpos.line) = true := by rfl) :
    ES X W (.Call (.Attribute o name apos) [] [] cpos) (meth T g fo aNil) :=
  pe_imp (pe_bm0 pa slot hty hm ho hbase hline) fun σ H Q ⟨μ, m, h, S, E, hp⟩ => by
    refine ⟨μ, m, h, S, E, Post.bnd hp fun x h1 m1 H1 v _ S1 X1 r1 hp1 => ?_⟩
    by_cases q : isTyD T h1 x = true
    · have e0 : tyOk T x h1 = .ok () h1 := by unfold tyOk; rw [if_pos q]
      unfold bnd at hp1
      rw [e0] at hp1
      exact ⟨tyV_of S1 r1 q, m1, h1, x, [], S1, r1, by simp [RepA], hp1⟩
    · have e0 : tyOk T x h1 = .bad := by unfold tyOk; rw [if_neg q]
      unfold bnd at hp1
      rw [e0] at hp1
      exact hp1.elim
theorem mt_imp {id : String} {r r' : V → List V → Hp → VK → Prop} (h : MtR X id r) (w : ∀ x xs H Q, r' x xs H Q → r x xs H Q) : MtR X id r' := fun pins s σ H x xs v us Q I rx rs q => h pins s σ H x xs v us Q I rx rs (w x xs H Q q)
/-- a cell's list is changed -/
def onList (x : D) (k : List D → R (D × List D)) : M D := fun h => match x with
  | .cell n => (match h[n]? with
    | some (.lst xs) => (match k xs with
      | .ok (d, ys) _ => .ok d (h.set n (.lst ys))
      | _ => .bad)
    | _ => .bad)
  | _ => .bad
theorem onList_post {x : D} {k : List D → R (D × List D)} {m : Mm} {H : Hp} {h : Hm} {v : V} {Q : VK} (S : Sim X.K X.mg m H h) (r : Rep X.K X.mg m H x v) (hp : Post (tx X W) m H (Rep X.K X.mg) (onList x k h) Q) :
    ∃ a xs vs d ys h', v = .ref a ∧ H a = some (.lst vs) ∧ RepA X.K X.mg m H xs vs ∧ k xs = .ok (d, ys) h' ∧ ∀ us w, RepA X.K X.mg m H ys us → Rep X.K X.mg m H d w → Q w (upd H a (.lst us)) := by
  unfold onList at hp
  cases x with
  | cell n =>
    simp only [Rep] at r
    obtain ⟨a, rfl, ha⟩ := r
    simp only at hp
    cases q : h[n]? with
    | none => rw [q] at hp; exact hp.elim
    | some c =>
      rw [q] at hp
      cases c with
      | lst xs =>
        simp only at hp
        obtain ⟨vs, hv, rv⟩ := S.at_ n a _ ha q
        cases e : k xs with
        | ok p h' =>
          obtain ⟨d, ys⟩ := p
          rw [e] at hp
          refine ⟨a, xs, vs, d, ys, h', rfl, hv, rv, e, fun us w r1 r2 => ?_⟩
          have X1 : Ext m H m (upd H a (.lst us)) := Ext.write ha
          exact hp m _ _ (S.write ha ⟨us, upd_same, r1.mono X1⟩) X1 (r2.mono X1)
        | exc _ _ => rw [e] at hp; exact hp.elim
        | bad => rw [e] at hp; exact hp.elim
      | _ => exact hp.elim
  | _ => exact hp.elim
theorem RepA.append {K : PySem.W.Frag} {mg : Str → Option Value} {m : Mm} {H : Hp} : ∀ {xs ys : List D} {vs us : List V}, RepA K mg m H xs vs → RepA K mg m H ys us → RepA K mg m H (xs ++ ys) (vs ++ us)
  | [], ys, vs, us, h, g => by
    simp only [RepA] at h
    subst h
    exact g
  | x :: xs, ys, vs, us, h, g => by
    simp only [RepA] at h
    obtain ⟨v, r, rfl, h1, h2⟩ := h
    simp only [List.cons_append, RepA]
    exact ⟨v, _, rfl, h1, RepA.append h2 g⟩
def appK (d : D) (xs : List D) : R (D × List D) := if xs.length < sizeLine then .ok (.p .none, xs ++ [d]) [] else .bad
def appendD (x : D) : List D → M D
  | [d] => onList x (appK d)
  | _ => bad
theorem m_append : MetS X W "list.append" appendD := by
  refine mt_imp mt_append fun v vs H Q ⟨m, h, x, xs, S, r1, r2, hp⟩ => ?_
  unfold appendD at hp
  split at hp
  · rename_i d
    simp only [RepA] at r2
    obtain ⟨w, _, rfl, r2, rfl⟩ := r2
    obtain ⟨a, ys, us, d', zs, h', rfl, hv, rv, e, q⟩ := onList_post S r1 hp
    unfold appK at e
    by_cases z : ys.length < sizeLine
    · rw [if_pos z] at e
      cases e
      exact ⟨a, us, w, rfl, rfl, hv, by rw [rv.length]; exact z, q _ _ (rv.append (by simp only [RepA]; exact ⟨w, [], rfl, r2, rfl⟩)) (by simp [Rep, RepP])⟩
    · rw [if_neg z] at e; cases e
  · exact hp.elim
def reverseD (x : D) : List D → M D
  | [] => onList x fun xs => .ok (.p .none, xs.reverse) []
  | _ => bad
theorem RepA.reverse {K : PySem.W.Frag} {mg : Str → Option Value} {m : Mm} {H : Hp} : ∀ {xs : List D} {vs : List V}, RepA K mg m H xs vs → RepA K mg m H xs.reverse vs.reverse
  | [], vs, h => by simp only [RepA] at h; subst h; simp [RepA]
  | x :: xs, vs, h => by
    simp only [RepA] at h
    obtain ⟨v, r, rfl, h1, h2⟩ := h
    simp only [List.reverse_cons]
    exact (RepA.reverse h2).append (by simp only [RepA]; exact ⟨v, [], rfl, h1, rfl⟩)
theorem m_reverse : MetS X W "list.reverse" reverseD := by
  refine mt_imp mt_reverse fun v vs H Q ⟨m, h, x, xs, S, r1, r2, hp⟩ => ?_
  unfold reverseD at hp
  split at hp
  · simp only [RepA] at r2
    subst r2
    obtain ⟨a, ys, us, d', zs, h', rfl, hv, rv, e, q⟩ := onList_post S r1 hp
    cases e
    exact ⟨a, us, rfl, rfl, hv, q _ _ rv.reverse (by simp [Rep, RepP])⟩
  · exact hp.elim
/-! join -/
def txts : List PyData → Option (List Str)
  | [] => some []
  | .str b :: r => (txts r).map (b :: ·)
  | _ :: _ => none
theorem txts_rep {K : PySem.W.Frag} {m : Mm} {H : Hp} : ∀ {xs : List PyData} {bs : List Str} {vs : List V}, txts xs = some bs → RepPs K m H xs vs → vs = bs.map V.str
  | [], bs, vs, e, r => by
    simp only [txts, Option.some.injEq] at e
    subst e
    simpa only [RepPs, List.map_nil] using r
  | .str b :: xs, bs, vs, e, r => by
    simp only [txts, Option.map_eq_some_iff] at e
    obtain ⟨cs, e, rfl⟩ := e
    simp only [RepPs, RepP] at r
    obtain ⟨v, r', rfl, rfl, h2⟩ := r
    rw [txts_rep e h2]
    rfl
  | .none :: _, _, _, e, _ => by simp [txts] at e
  | .int _ :: _, _, _, e, _ => by simp [txts] at e
  | .bool _ :: _, _, _, e, _ => by simp [txts] at e
  | .list _ :: _, _, _, e, _ => by simp [txts] at e
  | .tuple _ :: _, _, _, e, _ => by simp [txts] at e
  | .dict _ :: _, _, _, e, _ => by simp [txts] at e
def joinP (x : D) : List D → M D
  | [d] => rd2 (fun p q => match p, q with
    | .str a, .list xs => (match txts xs with
      | some ys => chk ((ys.map (·.length)).sum + ys.length * a.length ≤ 16777216) (ret (.p (.str (Txt.join a ys))))
      | none => bad)
    | _, _ => bad) x d
  | _ => bad
theorem m_join : MetS X W "str.join" joinP := by
  refine mt_imp mt_join fun v vs H Q ⟨m, h, x, xs, S, r1, r2, hp⟩ => ?_
  unfold joinP at hp
  split at hp
  · simp only [RepA] at r2
    obtain ⟨w, _, rfl, r2, rfl⟩ := r2
    obtain ⟨p, q, h1, h2, hp⟩ := rd2_post (T := tx X W) S r1 r2 hp
    split at hp
    · rename_i a xs
      simp only [RdP, RepP] at h1
      subst h1
      obtain ⟨l, us, rfl, f, ru⟩ := h2
      cases e : txts xs with
      | none => rw [e] at hp; exact hp.elim
      | some ys =>
        rw [e] at hp
        have := txts_rep e ru
        subst this
        obtain ⟨hz, hp⟩ := chk_post hp
        exact ⟨a, l, ys, rfl, rfl, .inl f, hz, Post.ret hp S (by simp [Rep, RepP])⟩
    · exact hp.elim
  · exact hp.elim

/-! ### in -/
def inP (neg : Bool) : PyData → PyData → M D
  | .str x, .str y => ret (.p (.bool (if neg then !inTxt x y else inTxt x y)))
  | x, .list ys => chk (SeqAt.shaped x = true ∧ SeqAt.shaped (.list ys) = true) (ret (.p (.bool (if neg then !(ys.any fun z => PyData.eqv z x) else ys.any fun z => PyData.eqv z x))))
  | _, _ => bad
theorem o_in {k : Nat} (hr : Room k X.A) : Op2 X W (compareOp .In) (rd2 (inP false)) := by
  refine op2_of (op_in_str.or (op_inD (by have := hr.un; omega))) fun m H h p q v u Q S r1 r2 hp => ?_
  unfold inP at hp
  split at hp
  · simp only [RdP, RepP] at r1 r2
    exact .inl ⟨_, _, r1, r2, Post.ret hp S (by simp [Rep, RepP, inTxt])⟩
  · obtain ⟨⟨h1, h2⟩, hp⟩ := chk_post hp
    exact .inr ⟨_, _, r1.dp (shaped_noDict h1), r2.dp (shaped_noDict h2), h1, h2, Post.ret hp S (by simp [Rep, RepP])⟩
  · exact hp.elim
theorem o_notIn {k : Nat} (hr : Room k X.A) : Op2 X W (compareOp .NotIn) (rd2 (inP true)) := by
  refine op2_of (op_notin_str.or (op_notInD (by have := hr.un; omega))) fun m H h p q v u Q S r1 r2 hp => ?_
  unfold inP at hp
  split at hp
  · simp only [RdP, RepP] at r1 r2
    exact .inl ⟨_, _, r1, r2, Post.ret hp S (by simp [Rep, RepP, inTxt])⟩
  · obtain ⟨⟨h1, h2⟩, hp⟩ := chk_post hp
    exact .inr ⟨_, _, r1.dp (shaped_noDict h1), r2.dp (shaped_noDict h2), h1, h2, Post.ret hp S (by simp [Rep, RepP])⟩
  · exact hp.elim
end
end MP
/-! MP5: targets, statements, loops, comprehensions. -/
namespace MP
open PySem PySem.Spec PyProof.Rows L2

/-! ### statements -/
inductive Fl where
  | nx (μ : Ev)
  | rt (d : D)
  | bk (μ : Ev)
  | ct (μ : Ev)
def PostS (T : Tx) (m : Mm) (H : Hp) (r : R Fl) (E : Ends) : Prop :=
  match r with
  | .ok (.nx μ) h' => ∀ m' H' σ', Sim T.K T.mg m' H' h' → Ext m H m' H' → EnvR T.K T.mg m' H' μ σ' → E.nx σ' H'
  | .ok (.rt d) h' => ∀ m' H' v, Sim T.K T.mg m' H' h' → Ext m H m' H' → Rep T.K T.mg m' H' d v → E.rt v H'
  | .ok (.bk μ) h' => ∀ m' H' σ', Sim T.K T.mg m' H' h' → Ext m H m' H' → EnvR T.K T.mg m' H' μ σ' → E.bk σ' H'
  | .ok (.ct μ) h' => ∀ m' H' σ', Sim T.K T.mg m' H' h' → Ext m H m' H' → EnvR T.K T.mg m' H' μ σ' → E.ct σ' H'
  | .exc e h' => ∀ m' H' cv dx, Sim T.K T.mg m' H' h' → Ext m H m' H' → ExR T.K T.mg m' H' e cv dx → T.W cv dx H'
  | .bad => False
theorem PostS.up {T : Tx} {m m' : Mm} {H H' : Hp} {h' : Hm} {r : R Fl} {E : Ends} (S : Sim T.K T.mg m' H' h') (X : Ext m H m' H') (hp : PostS T m H r E) : PostS T m' H' r E := by
  cases r with
  | ok f h2 =>
    cases f with
    | nx μ => exact fun m2 H2 σ2 S2 X2 e => hp m2 H2 σ2 S2 (X.then S X2) e
    | rt d => exact fun m2 H2 v S2 X2 e => hp m2 H2 v S2 (X.then S X2) e
    | bk μ => exact fun m2 H2 σ2 S2 X2 e => hp m2 H2 σ2 S2 (X.then S X2) e
    | ct μ => exact fun m2 H2 σ2 S2 X2 e => hp m2 H2 σ2 S2 (X.then S X2) e
  | exc x h2 => exact fun m2 H2 cv dx S2 X2 e => hp m2 H2 cv dx S2 (X.then S X2) e
  | bad => exact hp
theorem PostS.bnd {α β : Type} {T : Tx} {m : Mm} {H : Hp} {rel : Mm → Hp → α → β → Prop} {f : M α} {g : α → M Fl} {h : Hm} {E : Ends} {Q' : β → Hp → Prop}
    (hp : PostS T m H (bnd f g h) E) (hQ : ∀ a h' m' H' b, f h = .ok a h' → Sim T.K T.mg m' H' h' → Ext m H m' H' → rel m' H' a b → PostS T m' H' (g a h') E → Q' b H') : Post T m H rel (f h) Q' := by
  unfold MP.bnd at hp
  cases e : f h with
  | ok a h' =>
    rw [e] at hp
    exact fun m' H' b S X r => hQ a h' m' H' b e S X r (PostS.up S X hp)
  | exc x h' => rw [e] at hp; exact hp
  | bad => rw [e] at hp; exact hp
/-- another reading behind each end -/
theorem PostS.imp {T : Tx} {m : Mm} {H : Hp} {r : R Fl} {E E' : Ends} (hp : PostS T m H r E)
    (h1 : ∀ μ h' m' H' σ', r = .ok (.nx μ) h' → Sim T.K T.mg m' H' h' → Ext m H m' H' → EnvR T.K T.mg m' H' μ σ' → E.nx σ' H' → E'.nx σ' H')
    (h2 : ∀ v H', E.rt v H' → E'.rt v H')
    (h3 : ∀ μ h' m' H' σ', r = .ok (.bk μ) h' → Sim T.K T.mg m' H' h' → Ext m H m' H' → EnvR T.K T.mg m' H' μ σ' → E.bk σ' H' → E'.bk σ' H')
    (h4 : ∀ μ h' m' H' σ', r = .ok (.ct μ) h' → Sim T.K T.mg m' H' h' → Ext m H m' H' → EnvR T.K T.mg m' H' μ σ' → E.ct σ' H' → E'.ct σ' H') : PostS T m H r E' := by
  cases r with
  | ok f h' =>
    cases f with
    | nx μ => exact fun m2 H2 σ2 S2 X2 e => h1 μ h' m2 H2 σ2 rfl S2 X2 e (hp m2 H2 σ2 S2 X2 e)
    | rt d => exact fun m2 H2 v S2 X2 e => h2 _ _ (hp m2 H2 v S2 X2 e)
    | bk μ => exact fun m2 H2 σ2 S2 X2 e => h3 μ h' m2 H2 σ2 rfl S2 X2 e (hp m2 H2 σ2 S2 X2 e)
    | ct μ => exact fun m2 H2 σ2 S2 X2 e => h4 μ h' m2 H2 σ2 rfl S2 X2 e (hp m2 H2 σ2 S2 X2 e)
  | exc x h2 => exact hp
  | bad => exact hp
def rdS (T : Tx) (f : Ev → M Fl) : TS := fun E σ H => ∃ μ m h, Sim T.K T.mg m H h ∧ EnvR T.K T.mg m H μ σ ∧ PostS T m H (f μ h) E
abbrev SS (X : Cx) (W : XK) (st : Stmt) (f : Ev → M Fl) : Prop := PS X st (rdS (tx X W) f)
abbrev BS (X : Cx) (W : XK) (st : List Stmt) (f : Ev → M Fl) : Prop := PSs X st (rdS (tx X W) f)

def sNil : Ev → M Fl := fun μ => ret (.nx μ)
def sSeq (f g : Ev → M Fl) : Ev → M Fl := fun μ => bnd (f μ) fun o => match o with
  | .nx μ' => g μ'
  | o => ret o
def sRet (f : Ev → M D) : Ev → M Fl := fun μ => bnd (f μ) fun d => ret (.rt d)
def sRetN : Ev → M Fl := fun _ => ret (.rt (.p .none))
def sDrop (f : Ev → M D) : Ev → M Fl := fun μ => bnd (f μ) fun _ => ret (.nx μ)
def sIf (c : Ev → M Bool) (f g : Ev → M Fl) : Ev → M Fl := fun μ => bnd (c μ) fun b => if b = true then f μ else g μ
def sBreak : Ev → M Fl := fun μ => ret (.bk μ)
def sCont : Ev → M Fl := fun μ => ret (.ct μ)
section
variable {X : Cx} {W : XK} {e : Expr} {st : Stmt} {rest : List Stmt} {fe : Ev → M D} {f g : Ev → M Fl} {pos : Pos}
theorem bs_nil : BS X W [] sNil := pss_imp pss_nil fun E σ H ⟨μ, m, h, S, V, hp⟩ => hp m H σ S Ext.refl V
theorem bs_cons (h1 : SS X W st f) (h2 : BS X W rest g) : BS X W (st :: rest) (sSeq f g) := pss_imp (pss_cons h1 h2) fun E σ H ⟨μ, m, h, S, V, hp⟩ => by
  refine ⟨μ, m, h, S, V, ?_⟩
  unfold sSeq bnd at hp
  cases q : f μ h with
  | ok o h' =>
    rw [q] at hp
    cases o with
    | nx μ' => exact fun m' H' σ' S' X' V' => ⟨μ', m', h', S', V', hp.up S' X'⟩
    | rt d => exact hp
    | bk μ' => exact hp
    | ct μ' => exact hp
  | exc x h' => rw [q] at hp; exact hp
  | bad => rw [q] at hp; exact hp
theorem bs_one (h1 : SS X W st f) : BS X W [st] f := pss_imp (pss_one h1) fun E σ H h => h
theorem ss_ret (he : ES X W e fe) : SS X W (.Return (some e) pos) (sRet fe) := ps_imp (ps_ret he) fun E σ H ⟨μ, m, h, S, V, hp⟩ => ⟨μ, m, h, S, V, PostS.bnd hp fun d h' m' H' v _ S' X' r hp' => hp' m' H' v S' Ext.refl r⟩
theorem ss_retN : SS X W (.Return none pos) sRetN := ps_imp ps_retN fun E σ H ⟨μ, m, h, S, V, hp⟩ => hp m H .non S Ext.refl (by simp [Rep, RepP])
theorem ss_drop (he : ES X W e fe) (hs : swapsWith e none pos.line X.env = pure false := by rfl) : SS X W (.Expr e pos) (sDrop fe) := ps_imp (ps_expr he hs) fun E σ H ⟨μ, m, h, S, V, hp⟩ => ⟨μ, m, h, S, V, PostS.bnd hp fun d h' m' H' v _ S' X' r hp' => hp' m' H' σ S' Ext.refl (V.mono X')⟩
theorem ss_doc {x : Str} {j : Nat} {pos' : Pos} : SS X W (.Expr (.Constant (.str x) j pos) pos') sNil := ps_imp ps_doc fun E σ H ⟨μ, m, h, S, V, hp⟩ => hp m H σ S Ext.refl V
theorem ss_pass : SS X W (.Pass pos) sNil := ps_imp ps_pass fun E σ H ⟨μ, m, h, S, V, hp⟩ => hp m H σ S Ext.refl V
theorem ss_break : SS X W (.Break pos) sBreak := ps_imp ps_break fun E σ H ⟨μ, m, h, S, V, hp⟩ => hp m H σ S Ext.refl V
theorem ss_cont : SS X W (.Continue pos) sCont := ps_imp ps_continue fun E σ H ⟨μ, m, h, S, V, hp⟩ => hp m H σ S Ext.refl V
theorem ss_if {c : Expr} {fc : Ev → M Bool} {a b : List Stmt} (hc : TsS X W c fc) (ha : BS X W a f) (hb : BS X W b g) : SS X W (.If c a b pos) (sIf fc f g) := ps_imp (ps_if hc ha hb) fun E σ H ⟨μ, m, h, S, V, hp⟩ => ⟨μ, m, h, S, V, PostS.bnd hp fun d h' m' H' v _ S' X' r hp' => by
  subst r
  cases v with
  | true => exact ⟨μ, m', h', S', V.mono X', hp'⟩
  | false => exact ⟨μ, m', h', S', V.mono X', hp'⟩⟩
end

/-! ### targets -/
structure Agr (S : List Nat) (σ σ' : L2.St) : Prop where
  len : σ'.length = σ.length
  at_ : ∀ i, i ∉ S → σ'[i]? = σ[i]?
def rdG (T : Tx) (S : List Nat) (g : D → Ev → Hm → Option Ev) : TG := fun v σ H Q => ∃ μ m h d μ', Sim T.K T.mg m H h ∧ EnvR T.K T.mg m H μ σ ∧ Rep T.K T.mg m H d v ∧ g d μ h = some μ' ∧ ∀ σ', EnvR T.K T.mg m H μ' σ' → Agr S σ σ' → Q σ' H
def rdGs (T : Tx) (S : List Nat) (g : List D → Ev → Hm → Option Ev) : TGs := fun vs σ H Q => ∃ μ m h ds μ', Sim T.K T.mg m H h ∧ EnvR T.K T.mg m H μ σ ∧ RepA T.K T.mg m H ds vs ∧ g ds μ h = some μ' ∧ ∀ σ', EnvR T.K T.mg m H μ' σ' → Agr S σ σ' → Q σ' H
abbrev GS (X : Cx) (T : Tx) (e : Expr) (S : List Nat) (g : D → Ev → Hm → Option Ev) : Prop := PG X e (rdG T S g)
abbrev GsS (X : Cx) (T : Tx) (e : List Expr) (S : List Nat) (g : List D → Ev → Hm → Option Ev) : Prop := PGs X e (rdGs T S g)
theorem pg_imp {X : Cx} {e : Expr} {t t' : TG} (h : PG X e t) (w : ∀ v σ H Q, t' v σ H Q → t v σ H Q) : PG X e t' := ⟨fun pins s σ H v u Q I r q => h.run pins s σ H v u Q I r (w v σ H Q q)⟩
theorem pgs_imp {X : Cx} {e : List Expr} {t t' : TGs} (h : PGs X e t) (w : ∀ v σ H Q, t' v σ H Q → t v σ H Q) : PGs X e t' := ⟨fun pins s σ H v u Q I r q => h.run pins s σ H v u Q I r (w v σ H Q q)⟩
def gNm (i : Nat) : D → Ev → Hm → Option Ev := fun d μ _ => some (μ.set i (some d))
def gNl : List D → Ev → Hm → Option Ev := fun ds μ _ => match ds with
  | [] => some μ
  | _ => none
def gCn (g : D → Ev → Hm → Option Ev) (k : List D → Ev → Hm → Option Ev) : List D → Ev → Hm → Option Ev := fun ds μ h => match ds with
  | d :: r => (g d μ h).bind fun μ' => k r μ' h
  | [] => none
def itemsT : D → Option (List D)
  | .p (.tuple xs) => some (xs.map .p)
  | .mix xs => some xs
  | _ => none
def gTp (n : Nat) (k : List D → Ev → Hm → Option Ev) : D → Ev → Hm → Option Ev := fun d μ h => match itemsT d with
  | some xs => if xs.length = n then k xs μ h else none
  | none => none
theorem itemsT_rep {K : PySem.W.Frag} {mg : Str → Option Value} {m : Mm} {H : Hp} {d : D} {v : V} {xs : List D} (r : Rep K mg m H d v) (e : itemsT d = some xs) : ∃ a vs, v = .ref a ∧ FzT K m H a vs ∧ RepA K mg m H xs vs := by
  cases d with
  | p x =>
    cases x with
    | tuple ys =>
      simp only [itemsT, Option.some.injEq] at e
      subst e
      simp only [Rep, RepP] at r
      obtain ⟨a, vs, e, f, r⟩ := r
      exact ⟨a, vs, e, f, repA_map r⟩
    | _ => cases e
  | mix ys =>
    simp only [itemsT, Option.some.injEq] at e
    subst e
    simp only [Rep] at r
    exact r
  | _ => cases e
section
variable {X : Cx} {T : Tx} {pos : Pos}
theorem gs_name {i : Nat} {x : Str} (hN : X.N.Nodup) (hi : X.N[i]? = some x := by rfl) (hx : Loc X.env.scope x := by first | exact .inl rfl | exact .inr rfl) (hf : X.fn x = true ∨ X.env.scope.names.lookup x = some .local := by first | exact .inl rfl | exact .inr rfl) : GS X T (.Name x pos) [i] (gNm i) :=
  pg_imp (pg_name hN hi hx hf) fun v σ H Q ⟨μ, m, h, d, μ', S, E, r, e, q⟩ => by
    simp only [gNm, Option.some.injEq] at e
    subst e
    refine q _ (E.set r i) ⟨by simp, fun j hj => ?_⟩
    rw [List.getElem?_set_ne]
    intro z
    exact hj (by simp [z])
theorem gss_nil : GsS X T [] [] gNl := pgs_imp pgs_nil fun vs σ H Q ⟨μ, m, h, ds, μ', S, E, r, e, q⟩ => by
  cases ds with
  | nil =>
    simp only [RepA] at r
    simp only [gNl, Option.some.injEq] at e
    subst e
    exact ⟨r, q σ E ⟨rfl, fun _ _ => rfl⟩⟩
  | cons _ _ => cases e
theorem gss_cons {e : Expr} {es : List Expr} {S1 S2 : List Nat} {g : D → Ev → Hm → Option Ev} {k : List D → Ev → Hm → Option Ev} (h1 : GS X T e S1 g) (h2 : GsS X T es S2 k) (hs : (assignEach (e :: es) X.env).map (·.2) = assign e X.env :: (assignEach es X.env).map (·.2) := by rfl) : GsS X T (e :: es) (S1 ++ S2) (gCn g k) :=
  pgs_imp (pgs_cons h1 h2 hs) fun vs σ H Q ⟨μ, m, h, ds, μ', S, E, r, e, q⟩ => by
    cases ds with
    | nil => cases e
    | cons d ds =>
      simp only [RepA] at r
      obtain ⟨v, r', rfl, ra, rb⟩ := r
      simp only [gCn, Option.bind_eq_some_iff] at e
      obtain ⟨μ1, e1, e2⟩ := e
      refine ⟨v, r', rfl, μ, m, h, d, μ1, S, E, ra, e1, fun σ1 E1 A1 => ⟨μ1, m, h, ds, μ', S, E1, rb, e2, fun σ2 E2 A2 => q σ2 E2 ⟨A2.len.trans A1.len, fun j hj => ?_⟩⟩⟩
      rw [A2.at_ j fun z => hj (List.mem_append_right _ z), A1.at_ j fun z => hj (List.mem_append_left _ z)]
theorem gs_tup {es : List Expr} {kk : Nat} {S : List Nat} {k : List D → Ev → Hm → Option Ev} {n : Nat} (hc : X.calm = true) (h : GsS X T es S k) (hK : T.K = X.K := by rfl) (hn : (assignEach es X.env).length = n := by rfl) (hst : (assignEach es X.env).findIdx? (·.1) = none := by rfl) : GS X T (.Tuple es kk pos) S (gTp n k) :=
  pg_imp (pg_tup hc h hn hst) fun v σ H Q ⟨μ, m, h, d, μ', S, E, r, e, q⟩ => by
    unfold gTp at e
    cases q1 : itemsT d with
    | none => rw [q1] at e; cases e
    | some xs =>
      rw [q1] at e
      simp only at e
      by_cases hl : xs.length = n
      · rw [if_pos hl] at e
        obtain ⟨a, vs, rfl, f, rv⟩ := itemsT_rep r q1
        exact ⟨a, vs, rfl, by rw [← hK]; exact f.sq, by rw [rv.length]; exact hl, μ, m, h, xs, μ', S, E, rv, e, q⟩
      · rw [if_neg hl] at e; cases e
end
/-- target = value -/
def sAsg (g : D → Ev → Hm → Option Ev) (f : Ev → M D) : Ev → M Fl := fun μ => bnd (f μ) fun d h => match g d μ h with
  | some μ' => .ok (.nx μ') h
  | none => .bad
def sSet (i : Nat) (f : Ev → M D) : Ev → M Fl := fun μ => bnd (f μ) fun d => ret (.nx (μ.set i (some d)))
section
variable {X : Cx} {W : XK} {e : Expr} {fe : Ev → M D} {pos : Pos}
theorem rd_asg {S : List Nat} {g : D → Ev → Hm → Option Ev} {E : Ends} {σ : L2.St} {H : Hp} (h : rdS (tx X W) (sAsg g fe) E σ H) : tAsg (rdE (tx X W) fe) (rdG (tx X W) S g) E σ H := by
  obtain ⟨μ, m, h, Sm, V, hp⟩ := h
  refine ⟨μ, m, h, Sm, V, PostS.bnd hp fun d h' m' H' v _ S' X' r hp' => ?_⟩
  cases q : g d μ h' with
  | none => rw [q] at hp'; exact hp'.elim
  | some μ' =>
    rw [q] at hp'
    exact ⟨μ, m', h', d, μ', S', V.mono X', r, q, fun σ' V' _ => hp' m' H' σ' S' Ext.refl V'⟩
theorem ss_asg {tg : Expr} {S : List Nat} {g : D → Ev → Hm → Option Ev} (he : ES X W e fe) (hg : GS X (tx X W) tg S g) (hs : swapsWithSole [tg] e pos.line X.env = pure false := by rfl) (hw : swappedStores [tg] e X.env = pure none := by rfl)
    (h1 : (assignEach [tg] X.env).map (·.2) = [assign tg X.env] := by rfl) : SS X W (.Assign [tg] e pos) (sAsg g fe) := ps_imp (ps_asg he hg hs hw h1) fun E σ H h => rd_asg h
theorem ss_set {i : Nat} {x : Str} {pos' : Pos} (hN : X.N.Nodup) (he : ES X W e fe) (hi : X.N[i]? = some x := by rfl) (hx : Loc X.env.scope x := by first | exact .inl rfl | exact .inr rfl) (hs : swapsWith e (some (.Name x pos')) pos.line X.env = pure false := by rfl) (hf : X.fn x = true ∨ X.env.scope.names.lookup x = some .local := by first | exact .inl rfl | exact .inr rfl) :
    SS X W (.Assign [.Name x pos'] e pos) (sSet i fe) := ps_imp (ps_set hN hi hx he hs hf) fun E σ H ⟨μ, m, h, S, V, hp⟩ => ⟨μ, m, h, S, V, PostS.bnd hp fun d h' m' H' v _ S' X' r hp' => hp' m' H' _ S' Ext.refl ((V.mono X').set r i)⟩
/-- o[i] = v of a cell's list -/
def setK (d : D) (j : Int) (xs : List D) : R (D × List D) := match ixN xs.length j with
  | some k => .ok (.p .none, xs.set k d) []
  | none => .bad
def setD (x i d : D) : M D := match i with
  | .p (.int j) => onList x (setK d j)
  | _ => bad
def sSub (fe fo fi : Ev → M D) : Ev → M Fl := fun μ => bnd (fe μ) fun d => bnd (fo μ) fun x => bnd (fi μ) fun i => bnd (setD x i d) fun _ => ret (.nx μ)
theorem RepA.set {K : PySem.W.Frag} {mg : Str → Option Value} {m : Mm} {H : Hp} {d : D} {v : V} (rd : Rep K mg m H d v) : ∀ {xs : List D} {vs : List V} (j : Nat), RepA K mg m H xs vs → RepA K mg m H (xs.set j d) (vs.set j v)
  | [], vs, j, r => by simp only [RepA] at r; subst r; simp [RepA]
  | x :: xs, vs, 0, r => by
    simp only [RepA] at r
    obtain ⟨w, r', rfl, h1, h2⟩ := r
    simp only [List.set_cons_zero, RepA]
    exact ⟨v, r', rfl, rd, h2⟩
  | x :: xs, vs, j + 1, r => by
    simp only [RepA] at r
    obtain ⟨w, r', rfl, h1, h2⟩ := r
    simp only [List.set_cons_succ, RepA]
    exact ⟨w, _, rfl, h1, RepA.set rd j h2⟩
theorem ss_sub {o i : Expr} {fo fi : Ev → M D} {p1 : Pos} (he : ES X W e fe) (ho : ES X W o fo) (hi : ES X W i fi) (hs : swapsWithSole [.Subscript o i p1] e pos.line X.env = pure false := by rfl) (hw : swappedStores [.Subscript o i p1] e X.env = pure none := by rfl)
    (h1 : (assignEach [.Subscript o i p1] X.env).map (·.2) = [assign (.Subscript o i p1) X.env] := by rfl)
    (ha : ∀ v, assign (.Subscript o i p1) X.env v = (do
      let ov ← holding [v] (eval o X.env)
      let iv ← holding [v, ov] (eval i X.env)
      standAt p1
      holding [v, ov, iv] (setItem ov iv v)
      release [v, ov, iv] []) := by intro _; rfl) : SS X W (.Assign [.Subscript o i p1] e pos) (sSub fe fo fi) :=
  ps_imp (ps_asg he (pg_sub ho hi set_list ha) hs hw h1) fun E σ H ⟨μ, m, h, S, V, hp⟩ => by
    refine ⟨μ, m, h, S, V, PostS.bnd hp fun d h1 m1 H1 v _ S1 X1 r1 hp1 => ?_⟩
    refine ⟨μ, m1, h1, S1, V.mono X1, PostS.bnd hp1 fun x h2 m2 H2 ov _ S2 X2 r2 hp2 => ?_⟩
    refine ⟨μ, m2, h2, S2, (V.mono X1).mono X2, PostS.bnd hp2 fun y h3 m3 H3 iv _ S3 X3 r3 hp3 => ?_⟩
    unfold setD at hp3
    split at hp3
    · rename_i j _
      simp only [Rep, RepP] at r3
      have hp4 : Post (tx X W) m3 H3 (Rep X.K X.mg) (onList x (setK d j) h3) fun _ H' => E.nx σ H' := PostS.bnd hp3 fun _ h4 m4 H4 _ _ S4 X4 _ hp4 => (show ∀ m' H' σ', Sim X.K X.mg m' H' h4 → Ext m4 H4 m' H' → EnvR X.K X.mg m' H' μ σ' → E.nx σ' H' from hp4) m4 H4 σ S4 Ext.refl (((V.mono X1).mono X2).mono X3 |>.mono X4)
      obtain ⟨a, xs, vs, d', ys, h', rfl, hv, rv, ek, q⟩ := onList_post S3 (r2.mono X3) hp4
      unfold setK at ek
      cases ej : ixN xs.length j with
      | none => rw [ej] at ek; cases ek
      | some k =>
        rw [ej] at ek
        cases ek
        exact ⟨a, vs, j, k, rfl, r3, hv, by rw [rv.length]; exact ej, q _ (.non) (rv.set ((r1.mono X2).mono X3) k) (by simp [Rep, RepP])⟩
    · exact hp3.elim
end

/-! ### what is walked -/
structure WalksD (T : Tx) (m : Mm) (H : Hp) (J : It) (ds : List D) : Prop where
  go : ∀ m' H' h', Mov m H m' H' → Sim T.K T.mg m' H' h' → ∀ (i : Nat) d, ds[i]? = some d → J.go i H' ∧ ∀ x H2, J.yld i H' x H2 → Sim T.K T.mg m' H2 h' ∧ Ext m' H' m' H2 ∧ Rep T.K T.mg m' H2 d x
  stop : ∀ m' H' h', Mov m H m' H' → Sim T.K T.mg m' H' h' → J.stop ds.length H'
def rdI (T : Tx) (f : Ev → M (List D)) : TI := fun σ H Rr => ∃ μ m h, Sim T.K T.mg m H h ∧ EnvR T.K T.mg m H μ σ ∧ Post T m H (fun m' H' ds J => WalksD T m' H' J ds) (f μ h) Rr
abbrev IS (X : Cx) (W : XK) (tg e : Expr) (f : Ev → M (List D)) : Prop := PI X tg e (rdI (tx X W) f)
theorem pi_imp {X : Cx} {tg e : Expr} {t t' : TI} (h : PI X tg e t) (w : ∀ σ H Q, t' σ H Q → t σ H Q) : PI X tg e t' := ⟨fun pins s σ H Q I q => h.run pins s σ H Q I (w σ H Q q)⟩
section
variable {X : Cx} {W : XK} {tg e : Expr} {fe : Ev → M D}
def itL (f : Ev → M D) : Ev → M (List D) := fun μ => bnd (f μ) fun d => match d with
  | .p (.list xs) => ret (xs.map .p)
  | _ => bad
theorem walks_list {T : Tx} {m : Mm} {H : Hp} {a : Addr} {vs : List V} {ds : List D} (f : FzL T.K m H a vs) (r : RepA T.K T.mg m H ds vs) : WalksD T m H (Itl T.K a) ds := by
  refine ⟨fun m' H' h' X S i d e => ?_, fun m' H' h' X S => ⟨vs, (f.mov X).sq, Nat.le_of_eq r.length⟩⟩
  obtain ⟨v, hv, rv⟩ := repA_at r e
  have f' := (f.mov X).sq
  refine ⟨⟨vs, v, f', hv⟩, fun x H2 hy => ?_⟩
  obtain ⟨rfl, hx⟩ := hy
  have := hx vs f'
  rw [hv] at this
  cases this
  exact ⟨S, Ext.refl, Rep.mov X _ _ rv⟩
theorem is_list (he : ES X W e fe) : IS X W tg e (itL fe) := pi_imp (pi_list he) fun σ H Q ⟨μ, m, h, S, V, hp⟩ => ⟨μ, m, h, S, V, Post.bnd hp fun d h1 m1 H1 v _ S1 X1 r1 hp1 => by
  split at hp1
  · simp only [Rep, RepP] at r1
    obtain ⟨a, vs, rfl, f, r⟩ := r1
    exact ⟨a, rfl, ⟨vs, f.sq⟩, Post.ret hp1 S1 (walks_list f (repA_map r))⟩
  · exact hp1.elim⟩
def itT (f : Ev → M D) : Ev → M (List D) := fun μ => bnd (f μ) fun d => match itemsT d with
  | some xs => ret xs
  | none => bad
theorem walks_tup {T : Tx} {m : Mm} {H : Hp} {a : Addr} {vs : List V} {ds : List D} (f : FzT T.K m H a vs) (r : RepA T.K T.mg m H ds vs) : WalksD T m H (Itt T.K a) ds := by
  refine ⟨fun m' H' h' X S i d e => ?_, fun m' H' h' X S => ⟨vs, (f.mov X).sq, Nat.le_of_eq r.length⟩⟩
  obtain ⟨v, hv, rv⟩ := repA_at r e
  have f' := (f.mov X).sq
  refine ⟨⟨vs, v, f', hv⟩, fun x H2 hy => ?_⟩
  obtain ⟨rfl, hx⟩ := hy
  have := hx vs f'
  rw [hv] at this
  cases this
  exact ⟨S, Ext.refl, Rep.mov X _ _ rv⟩
theorem is_tup (he : ES X W e fe) : IS X W tg e (itT fe) := pi_imp (pi_tup he) fun σ H Q ⟨μ, m, h, S, V, hp⟩ => ⟨μ, m, h, S, V, Post.bnd hp fun d h1 m1 H1 v _ S1 X1 r1 hp1 => by
  cases q : itemsT d with
  | none => rw [q] at hp1; exact hp1.elim
  | some xs =>
    rw [q] at hp1
    obtain ⟨a, vs, rfl, f, r⟩ := itemsT_rep r1 q
    exact ⟨a, rfl, ⟨vs, f.sq⟩, Post.ret hp1 S1 (walks_tup f r)⟩⟩
def rngL (lo : Int) (n : Nat) : List D := (List.range n).map fun i => .p (.int (lo + (i : Nat)))
theorem walks_rng {T : Tx} {m : Mm} {H : Hp} (lo : Int) (n : Nat) : WalksD T m H (Itr lo n) (rngL lo n) := by
  refine ⟨fun m' H' h' X S i d e => ?_, fun m' H' h' X S => by simp [rngL, Itr]⟩
  simp only [rngL, List.getElem?_map, Option.map_eq_some_iff] at e
  obtain ⟨j, e, rfl⟩ := e
  have hl : i < n := by
    rcases Nat.lt_or_ge i n with q | q
    · exact q
    · rw [List.getElem?_eq_none (by simpa using q)] at e; cases e
  have hj : j = i := by
    rw [List.getElem?_eq_getElem (by simpa using hl)] at e
    simpa using (Option.some.inj e).symm
  subst hj
  refine ⟨hl, fun x H2 hy => ?_⟩
  obtain ⟨rfl, rfl⟩ := hy
  exact ⟨S, Ext.refl, by simp [Rep, RepP]⟩
def itR1 (f : Ev → M (List D)) : Ev → M (List D) := fun μ => bnd (f μ) fun ds => match ds with
  | [.p (.int j)] => chk (-(2 ^ 62) ≤ j ∧ j < 2 ^ 62) (ret (rngL 0 j.toNat))
  | _ => bad
theorem is_rng1 {a : Expr} {fa : Ev → M (List D)} {p pos : Pos} (hg : Gl X "range") (hm : X.mg "range" = none) (ha : AS X W [a] fa) (hs : starEach [a] X.env = [(false, eval a X.env)] := by rfl) : IS X W tg (.Call (.Name "range" p) [a] [] pos) (itR1 fa) :=
  pi_imp (pi_range1 hg hm ha hs) fun σ H Q ⟨μ, m, h, S, V, hp⟩ => ⟨μ, m, h, S, V, Post.bnd hp fun ds h1 m1 H1 vs _ S1 X1 r1 hp1 => by
    split at hp1
    · rename_i j _
      simp only [RepA, Rep, RepP] at r1
      obtain ⟨v, _, rfl, rfl, rfl⟩ := r1
      obtain ⟨⟨z1, z2⟩, hp1⟩ := chk_post hp1
      exact ⟨j, rfl, z1, z2, Post.ret hp1 S1 (walks_rng 0 j.toNat)⟩
    · exact hp1.elim⟩
def itR2 (f : Ev → M (List D)) : Ev → M (List D) := fun μ => bnd (f μ) fun ds => match ds with
  | [.p (.int i), .p (.int j)] => chk (-(2 ^ 62) ≤ i ∧ i < 2 ^ 62 ∧ -(2 ^ 62) ≤ j ∧ j < 2 ^ 62) (ret (rngL i (j - i).toNat))
  | _ => bad
theorem is_rng2 {a b : Expr} {fa : Ev → M (List D)} {p pos : Pos} (hg : Gl X "range") (hm : X.mg "range" = none) (ha : AS X W [a, b] fa) (hs : starEach [a, b] X.env = [(false, eval a X.env), (false, eval b X.env)] := by rfl) (hs2 : starEach [b] X.env = [(false, eval b X.env)] := by rfl) : IS X W tg (.Call (.Name "range" p) [a, b] [] pos) (itR2 fa) :=
  pi_imp (pi_range2 hg hm ha hs hs2) fun σ H Q ⟨μ, m, h, S, V, hp⟩ => ⟨μ, m, h, S, V, Post.bnd hp fun ds h1 m1 H1 vs _ S1 X1 r1 hp1 => by
    split at hp1
    · rename_i i j _
      simp only [RepA, Rep, RepP] at r1
      obtain ⟨v, _, rfl, rfl, w, _, rfl, rfl, rfl⟩ := r1
      obtain ⟨z, hp1⟩ := chk_post hp1
      exact ⟨i, j, rfl, z, Post.ret hp1 S1 (walks_rng i (j - i).toNat)⟩
    · exact hp1.elim⟩
/-- the signs of a text -/
def sgnL (x : Str) : List D := x.cps.toList.map fun c => .p (.str ⟨#[c]⟩)
theorem walks_str {T : Tx} {m : Mm} {H : Hp} (x : Str) : WalksD T m H (Its x) (sgnL x) := by
  refine ⟨fun m' H' h' X S i d e => ?_, fun m' H' h' X S => by simp [sgnL, Its]⟩
  simp only [sgnL, List.getElem?_map, Option.map_eq_some_iff] at e
  obtain ⟨c, e, rfl⟩ := e
  have e' : x.cps[i]? = some c := by simpa using e
  have hl : i < x.cps.size := by
    rcases Nat.lt_or_ge i x.cps.size with q | q
    · exact q
    · rw [Array.getElem?_eq_none q] at e'; cases e'
  refine ⟨hl, fun y H2 hy => ?_⟩
  obtain ⟨rfl, c', hc, rfl⟩ := hy
  rw [e'] at hc
  cases hc
  exact ⟨S, Ext.refl, by simp [Rep, RepP]⟩
def itS (f : Ev → M D) : Ev → M (List D) := fun μ => bnd (f μ) fun d => match d with
  | .p (.str x) => ret (sgnL x)
  | _ => bad
theorem is_str (he : ES X W e fe) : IS X W tg e (itS fe) := pi_imp (pi_str he) fun σ H Q ⟨μ, m, h, S, V, hp⟩ => ⟨μ, m, h, S, V, Post.bnd hp fun d h1 m1 H1 v _ S1 X1 r1 hp1 => by
  split at hp1
  · simp only [Rep, RepP] at r1
    exact ⟨_, r1, Post.ret hp1 S1 (walks_str _)⟩
  · exact hp1.elim⟩
end

/-! ### for -/
def forL (g : D → Ev → Hm → Option Ev) (body : Ev → M Fl) : List D → Ev → M Fl
  | [], μ => ret (.nx μ)
  | d :: ds, μ => fun h => match g d μ h with
    | none => .bad
    | some μ' => bnd (body μ') (fun o => match o with
      | .nx μ2 => forL g body ds μ2
      | .ct μ2 => forL g body ds μ2
      | .bk μ2 => ret (.nx μ2)
      | .rt v => ret (.rt v)) h
def sFor (fi : Ev → M (List D)) (g : D → Ev → Hm → Option Ev) (body : Ev → M Fl) : Ev → M Fl := fun μ => bnd (fi μ) fun ds => forL g body ds μ
section
variable {X : Cx} {W : XK} {tg iter : Expr} {body : List Stmt} {fi : Ev → M (List D)} {g : D → Ev → Hm → Option Ev} {fb : Ev → M Fl} {pos : Pos}
theorem rd_for {S : List Nat} {E : Ends} {σ : L2.St} {H : Hp} (h : rdS (tx X W) (sFor fi g fb) E σ H) : tFor (rdI (tx X W) fi) (rdG (tx X W) S g) (rdS (tx X W) fb) E σ H := by
  obtain ⟨μ, m, h, Sm, V, hp⟩ := h
  refine ⟨μ, m, h, Sm, V, PostS.bnd hp fun ds h1 m1 H1 J _ S1 X1 r1 hp1 => ?_⟩
  refine ⟨fun i k σ H => ∃ μ m h, Sim X.K X.mg m H h ∧ EnvR X.K X.mg m H μ σ ∧ Ext m1 H1 m H ∧ PostS (tx X W) m H (forL g fb (ds.drop i) μ h) E ∧ k = ds.length - i ∧ i ≤ ds.length, ⟨_, μ, m1, h1, S1, V.mono X1, Ext.refl, hp1, rfl, Nat.zero_le _⟩, ?_⟩
  intro i k σ2 H2 ⟨μ2, m2, h2, S2, V2, X2, hp2, ek, hi⟩
  by_cases hl : i < ds.length
  · have ed : ds[i]? = some ds[i] := List.getElem?_eq_getElem hl
    obtain ⟨hgo, hy⟩ := r1.go m2 H2 h2 X2.mov S2 i _ ed
    rw [List.drop_eq_getElem_cons hl] at hp2
    refine .inr ⟨hgo, fun σ' H' => ∃ μ m h, Sim X.K X.mg m H' h ∧ EnvR X.K X.mg m H' μ σ' ∧ Ext m1 H1 m H' ∧ PostS (tx X W) m H' (forL g fb (ds.drop (i + 1)) μ h) E, fun σ' H' ⟨μ', m', h', a, b, c, d⟩ => ⟨ds.length - (i + 1), by omega, μ', m', h', a, b, c, d, rfl, hl⟩, fun x H3 hx => ?_⟩
    obtain ⟨S3, X3, r3⟩ := hy x H3 hx
    simp only [forL] at hp2
    cases eg : g ds[i] μ2 h2 with
    | none => rw [eg] at hp2; exact hp2.elim
    | some μ3 =>
      rw [eg] at hp2
      change PostS (tx X W) m2 H2 (bnd (fb μ3) _ h2) E at hp2
      refine ⟨μ2, m2, h2, ds[i], μ3, S3, V2.mono X3, r3, eg, fun σ4 V4 _ => ⟨μ3, m2, h2, S3, V4, ?_⟩⟩
      have hp3 := PostS.up S3 X3 hp2
      have X13 : Ext m1 H1 m2 H3 := X2.then S2 X3
      unfold bnd at hp3
      cases eb : fb μ3 h2 with
      | ok o h5 =>
        rw [eb] at hp3
        cases o with
        | nx μ5 => exact fun m5 H5 σ5 S5 X5 V5 => ⟨μ5, m5, h5, S5, V5, X13.then S3 X5, PostS.up S5 X5 hp3⟩
        | ct μ5 => exact fun m5 H5 σ5 S5 X5 V5 => ⟨μ5, m5, h5, S5, V5, X13.then S3 X5, PostS.up S5 X5 hp3⟩
        | bk μ5 => exact hp3
        | rt v => exact hp3
      | exc x h5 => rw [eb] at hp3; exact hp3
      | bad => rw [eb] at hp3; exact hp3
  · have hi' : i = ds.length := by omega
    subst hi'
    rw [List.drop_length] at hp2
    exact .inl ⟨r1.stop m2 H2 h2 X2.mov S2, hp2 m2 H2 σ2 S2 Ext.refl V2⟩
theorem ss_for {S : List Nat} (hp : PassesOwn (model X.prog X.w) X.A X.env X.xe) (hc : X.calm = true) (hi : IS X W tg iter fi) (hg : GS X (tx X W) tg S g) (hb : BS X W body fb) (hs : ∀ x, foldedSetIterable iter X.env x = pure x := by intro _; rfl) : SS X W (.For tg iter body [] pos) (sFor fi g fb) :=
  ps_imp (ps_for hp hc hi hg hb hs) fun E σ H h => rd_for h
end

/-! ### while -/
def whlL (c : Ev → M Bool) (body : Ev → M Fl) : Nat → Ev → M Fl
  | 0, _ => bad
  | n + 1, μ => bnd (c μ) fun b => if b = true then (bnd (body μ) fun o => match o with
      | .nx μ2 => whlL c body n μ2
      | .ct μ2 => whlL c body n μ2
      | .bk μ2 => ret (.nx μ2)
      | .rt v => ret (.rt v)) else ret (.nx μ)
section
variable {X : Cx} {W : XK} {c : Expr} {body : List Stmt} {fc : Ev → M Bool} {fb : Ev → M Fl} {pos : Pos}
theorem ss_while (n : Nat) (hp : PassesOwn (model X.prog X.w) X.A X.env X.xe) (hc : TsS X W c fc) (hb : BS X W body fb) : SS X W (.While c body [] pos) (whlL fc fb n) :=
  ps_imp (ps_while hp hc hb) fun E σ H ⟨μ, m, h, S, V, hp⟩ => by
    refine ⟨fun k σ H => ∃ μ m h, Sim X.K X.mg m H h ∧ EnvR X.K X.mg m H μ σ ∧ PostS (tx X W) m H (whlL fc fb k μ h) E, ⟨n, μ, m, h, S, V, hp⟩, ?_⟩
    intro k σ2 H2 ⟨μ2, m2, h2, S2, V2, hp2⟩
    cases k with
    | zero => exact hp2.elim
    | succ k =>
      simp only [whlL] at hp2
      refine ⟨μ2, m2, h2, S2, V2, PostS.bnd hp2 fun b h3 m3 H3 b' _ S3 X3 r3 hp3 => ?_⟩
      subst r3
      cases b' with
      | false => exact hp3 m3 H3 σ2 S3 Ext.refl (V2.mono X3)
      | true =>
        refine ⟨fun σ' H' => ∃ μ m h, Sim X.K X.mg m H' h ∧ EnvR X.K X.mg m H' μ σ' ∧ PostS (tx X W) m H' (whlL fc fb k μ h) E, fun σ' H' h => ⟨k, Nat.lt_succ_self _, h⟩, μ2, m3, h3, S3, V2.mono X3, ?_⟩
        simp only [if_true] at hp3
        unfold bnd at hp3
        cases eb : fb μ2 h3 with
        | ok o h5 =>
          rw [eb] at hp3
          cases o with
          | nx μ5 => exact fun m5 H5 σ5 S5 X5 V5 => ⟨μ5, m5, h5, S5, V5, PostS.up S5 X5 hp3⟩
          | ct μ5 => exact fun m5 H5 σ5 S5 X5 V5 => ⟨μ5, m5, h5, S5, V5, PostS.up S5 X5 hp3⟩
          | bk μ5 => exact hp3
          | rt v => exact hp3
        | exc x h5 => rw [eb] at hp3; exact hp3
        | bad => rw [eb] at hp3; exact hp3
end

/-! ### comprehensions -/
def wipeE (μ : Ev) : List Nat → Ev
  | [] => μ
  | v :: vs => (wipeE μ vs).set v none
theorem EnvR.wipe {K : PySem.W.Frag} {mg : Str → Option Value} {m : Mm} {H : Hp} {μ : Ev} {σ : L2.St} (h : EnvR K mg m H μ σ) : ∀ vs : List Nat, EnvR K mg m H (wipeE μ vs) (L2.wipe σ vs)
  | [] => h
  | v :: vs => (EnvR.wipe h vs).unset v
theorem wipe_get {σ : L2.St} {i : Nat} : ∀ {vs : List Nat}, i ∈ vs → i < σ.length → (L2.wipe σ vs)[i]? = some none
  | [], h, _ => by cases h
  | v :: vs, h, hl => by
    show ((L2.wipe σ vs).set v none)[i]? = some none
    by_cases e : v = i
    · subst e
      rw [List.getElem?_set_self (by rw [L2.wipe_length]; exact hl)]
    · rw [List.getElem?_set_ne e]
      rcases List.mem_cons.mp h with q | q
      · exact absurd q.symm e
      · exact wipe_get q hl
theorem wipe_agr {σ σ' : L2.St} {S vs : List Nat} (hs : ∀ i ∈ S, i ∈ vs) (a : Agr S (L2.wipe σ vs) σ') : L2.wipe σ' vs = L2.wipe σ vs := by
  refine List.ext_getElem? fun i => ?_
  have hl : σ'.length = σ.length := by rw [a.len, L2.wipe_length]
  by_cases h : i ∈ vs
  · by_cases q : i < σ.length
    · rw [wipe_get h (by rw [hl]; exact q), wipe_get h q]
    · rw [List.getElem?_eq_none (by rw [L2.wipe_length, hl]; omega), List.getElem?_eq_none (by rw [L2.wipe_length]; omega)]
  · rw [L2.wipe_out h, a.at_ i fun z => h (hs i z)]
def cmpL (g : D → Ev → Hm → Option Ev) (tt : Ev → M Bool) (te : Ev → M D) (μ : Ev) : List D → M (List D)
  | [] => ret []
  | d :: ds => fun h => match g d μ h with
    | none => .bad
    | some μ1 => bnd (tt μ1) (fun b => if b = true then bnd (te μ1) fun y => bnd (cmpL g tt te μ ds) fun ys => ret (y :: ys) else cmpL g tt te μ ds) h
/-- nothing is raised -/
def nox {α : Type} (f : M α) : M α := fun h => match f h with
  | .ok a h' => .ok a h'
  | _ => .bad
def cmpE (fin : List D → M D) (fi : Ev → M (List D)) (vs : List Nat) (g : D → Ev → Hm → Option Ev) (tt : Ev → M Bool) (te : Ev → M D) : Ev → M D := fun μ => bnd (fi μ) fun ds => bnd (nox (cmpL g tt te (wipeE μ vs) ds)) fin
def yesT : Ev → M Bool := fun _ => ret true
section
variable {X : Cx} {W : XK} {elt tg iter : Expr} {ifs : List Expr} {scope : Scope} {own : List (Str × Nat)} {fi : Ev → M (List D)} {g : D → Ev → Hm → Option Ev} {tt : Ev → M Bool} {te : Ev → M D} {pos : Pos} {S : List Nat}
abbrev tb (X : Cx) : Tx := ⟨X.K, X.mg, E0⟩
theorem Post.nox {α β : Type} {T : Tx} {m : Mm} {H : Hp} {rel : Mm → Hp → α → β → Prop} {f : M α} {h : Hm} {Q : β → Hp → Prop} (hp : Post T m H rel (nox f h) Q) : ∃ a h', f h = .ok a h' ∧ Post T m H rel (.ok a h') Q := by
  unfold MP.nox at hp
  cases e : f h with
  | ok a h' => rw [e] at hp; exact ⟨a, h', rfl, hp⟩
  | exc x h' => rw [e] at hp; exact hp.elim
  | bad => rw [e] at hp; exact hp.elim
/-- a run that came to an end, wanted as it is -/
theorem run_post {α : Type} {T : Tx} {m : Mm} {H : Hp} {β : Type} {rel : Mm → Hp → α → β → Prop} {f : M α} {h h' : Hm} {a : α} (e : f h = .ok a h') (Q : β → Hp → Prop) (q : ∀ m' H' b, Sim T.K T.mg m' H' h' → Ext m H m' H' → rel m' H' a b → Q b H') : Post T m H rel (f h) Q := by
  rw [e]; exact q
theorem bnd_ok {α β : Type} {f : M α} {g : α → M β} {h h' : Hm} {b : β} (e : bnd f g h = .ok b h') : ∃ a h1, f h = .ok a h1 ∧ g a h1 = .ok b h' := by
  unfold bnd at e
  cases q : f h with
  | ok a h1 => rw [q] at e; exact ⟨a, h1, rfl, e⟩
  | exc x h1 => rw [q] at e; cases e
  | bad => rw [q] at e; cases e
theorem rd_cmp (hS : ∀ i ∈ S, i ∈ own.map (·.2)) {σ : L2.St} {H : Hp} {Q : VK} (h : rdE (tx X W) (cmpE mkLst fi (own.map (·.2)) g tt te) σ H Q) :
    tLc (rdI (tx X W) fi) (rdG (tb X) S g) (rdT (tb X) tt) (rdE (tb X) te) (own.map (·.2)) σ H Q := by
  obtain ⟨μ, m, h, Sm, V, hp⟩ := h
  refine ⟨μ, m, h, Sm, V, Post.bnd hp fun ds h1 m1 H1 J _ S1 X1 r1 hp1 => ?_⟩
  intro Da hD
  have n1 : Da ∉ m1 := S1.notin hD
  -- the run of the block
  unfold bnd at hp1
  cases er : cmpL g tt te (wipeE μ (own.map (·.2))) ds h1 with
  | exc x hx => unfold nox at hp1; rw [er] at hp1; exact hp1.elim
  | bad => unfold nox at hp1; rw [er] at hp1; exact hp1.elim
  | ok ys hz =>
    unfold nox at hp1
    rw [er] at hp1
    simp only at hp1
    obtain ⟨hlen, hp1⟩ := chk_post hp1
    cases epl : plain ys with
    | none => rw [epl] at hp1; exact hp1.elim
    | some xs =>
      rw [epl] at hp1
      have M0 : Mov m1 H1 (m1.hide Da) (upd H1 Da (.lst [])) := Mov.hide hD
      refine ⟨fun i k H => ∃ m h acc vacc rest, Sim X.K X.mg m H h ∧ m.v = Da :: m1.v ∧ Mov m1 H1 m H ∧ Ext m1 H1 ⟨m.c, m1.v⟩ H ∧ H Da = some (.lst vacc) ∧ RepA X.K X.mg m H acc vacc ∧ cmpL g tt te (wipeE μ (own.map (·.2))) (ds.drop i) h = .ok rest hz ∧ ys = acc ++ rest ∧ k = ds.length - i ∧ i ≤ ds.length,
        ⟨_, m1.hide Da, h1, [], [], ys, S1.hide hD, rfl, M0, ⟨⟨[], by simp [Mm.hide], by simp⟩, rfl, fun a o q _ => by rw [upd_ne (ne_of_none q hD)]; exact q⟩, upd_same, by simp [RepA], er, rfl, rfl, Nat.zero_le _⟩, ?_⟩
      intro i k H2 ⟨m2, h2, acc, vacc, rest, S2, ev, M2, X2, e2, ra, ec, ey, ek, hi⟩
      have pD : Da ∈ m2.v := by rw [ev]; exact List.mem_cons_self ..
      by_cases hl : i < ds.length
      · have ed : ds[i]? = some ds[i] := List.getElem?_eq_getElem hl
        obtain ⟨hgo, hy⟩ := r1.go m2 H2 h2 M2 S2 i _ ed
        rw [List.drop_eq_getElem_cons hl] at ec
        refine .inr ⟨hgo, fun H' => ∃ m h acc vacc rest, Sim X.K X.mg m H' h ∧ m.v = Da :: m1.v ∧ Mov m1 H1 m H' ∧ Ext m1 H1 ⟨m.c, m1.v⟩ H' ∧ H' Da = some (.lst vacc) ∧ RepA X.K X.mg m H' acc vacc ∧ cmpL g tt te (wipeE μ (own.map (·.2))) (ds.drop (i + 1)) h = .ok rest hz ∧ ys = acc ++ rest, fun H' ⟨a1, a2, a3, a4, a5, b1, b2, b3, b4, b5, b6, b7, b8⟩ => ⟨ds.length - (i + 1), by omega, a1, a2, a3, a4, a5, b1, b2, b3, b4, b5, b6, b7, b8, rfl, hl⟩, fun x H3 hx => ?_⟩
        obtain ⟨S3, X3, r3⟩ := hy x H3 hx
        simp only [cmpL] at ec
        cases eg : g ds[i] (wipeE μ (own.map (·.2))) h2 with
        | none => rw [eg] at ec; cases ec
        | some μ3 =>
          rw [eg] at ec
          have V3 : EnvR X.K X.mg m2 H3 (wipeE μ (own.map (·.2))) (L2.wipe σ (own.map (·.2))) := ((((V.mono X1).mov M2).mono X3)).wipe _
          -- what holds behind a further step
          have onw : ∀ {m6 : Mm} {H6 : Hp} {h6 : Hm}, Sim X.K X.mg m6 H6 h6 → Ext m2 H2 m6 H6 → m6.v = Da :: m1.v ∧ Mov m1 H1 m6 H6 ∧ Ext m1 H1 ⟨m6.c, m1.v⟩ H6 ∧ H6 Da = some (.lst vacc) := fun {m6 H6 h6} S6 X6 => by
            refine ⟨X6.same.trans ev, M2.trans X6.mov, ?_, X6.keep _ _ e2 (S2.pv Da pD).2⟩
            have Y : Ext ⟨m2.c, m1.v⟩ H2 ⟨m6.c, m1.v⟩ H6 := ⟨X6.pre, rfl, X6.keep⟩
            refine X2.trans Y fun a ha => ?_
            obtain ⟨t, et, _⟩ := X2.pre
            have et' : m2.c = m1.c ++ t := et
            exact S2.isSomec (by rw [et']; exact List.mem_append_left _ ha)
          refine ⟨wipeE μ (own.map (·.2)), m2, h2, ds[i], μ3, S3, V3, r3, eg, fun σ4 V4 A4 => ⟨wipe_agr hS A4, ?_⟩⟩
          obtain ⟨b, h5, eb, ec⟩ := bnd_ok ec
          refine ⟨μ3, m2, h2, S3, V4, run_post eb _ fun m5 H5 b' S5 X5 rb => ?_⟩
          subst rb
          cases b' with
          | false =>
            simp only [Bool.false_eq_true, if_false] at ec
            obtain ⟨k1, k2, k3, k4⟩ := onw S5 (X3.then S3 X5)
            exact ⟨m5, h5, acc, vacc, rest, S5, k1, k2, k3, k4, (ra.mono X3).mono X5, ec, ey⟩
          | true =>
            simp only [if_true] at ec
            obtain ⟨y, h6, ee, ecb⟩ := bnd_ok ec
            obtain ⟨ys2, h7, ecc, e7⟩ := bnd_ok ecb
            simp only [ret, R.ok.injEq] at e7
            obtain ⟨e7, e8⟩ := e7
            subst e8
            refine ⟨μ3, m5, h5, S5, V4.mono X5, run_post ee _ fun m6 H6 v S6 X6 rv => ?_⟩
            obtain ⟨k1, k2, k3, k4⟩ := onw S6 ((X3.then S3 X5).then S5 X6)
            have hacc : acc.length < ys.length := by rw [ey, ← e7]; simp
            have rac := ((ra.mono X3).mono X5).mono X6
            have p6 : Da ∈ m6.v := by rw [k1]; exact List.mem_cons_self ..
            refine ⟨vacc, k4, by rw [ra.length]; omega, m6, h6, acc ++ [y], vacc ++ [v], ys2, S6.priv p6, k1, k2.trans (Mov.priv p6), ?_, upd_same, ?_, ecc, by rw [ey, ← e7]; simp⟩
            · exact ⟨k3.pre, rfl, fun a o q z => by
                rw [upd_ne (ne_of_none q hD)]
                exact k3.keep a o q z⟩
            · exact RepA.append (RepA.mov (Mov.priv p6) _ _ rac) (by simp only [RepA]; exact ⟨v, [], rfl, Rep.mov (Mov.priv p6) _ _ rv, rfl⟩)
      · have hi' : i = ds.length := by omega
        subst hi'
        rw [List.drop_length] at ec
        simp only [cmpL, ret, R.ok.injEq] at ec
        obtain ⟨e1, e3⟩ := ec
        subst e1 e3
        rw [List.append_nil] at ey
        subst ey
        have em : m2 = Mm.hide ⟨m2.c, m1.v⟩ Da := by
          cases m2
          simp only at ev
          subst ev
          rfl
        have S2' : Sim X.K X.mg ⟨m2.c, m1.v⟩ H2 h2 := by
          rw [em] at S2
          exact S2.show
        have ra' : RepA X.K X.mg ⟨m2.c, m1.v⟩ H2 ys vacc := by
          rw [em] at ra
          exact RepA.mov Mov.show _ _ ra
        have nin : Da ∉ (⟨m2.c, m1.v⟩ : Mm) := by
          rintro (z | z)
          · exact (S2.pv Da pD).2 z
          · exact n1 (Or.inr z)
        exact .inl ⟨r1.stop m2 H2 h2 M2 S2, hp1 _ H2 _ S2' X2 (by simp only [Rep, RepP]; exact ⟨Da, vacc, rfl, .inl ⟨.inl e2, nin⟩, plain_rep epl ra'⟩)⟩
theorem es_cmp_ {wi : TI} (hS : ∀ i ∈ S, i ∈ own.map (·.2)) (hc : X.calm = true) (hN : X.N.Nodup) (hi : IS X W tg iter fi) (ok : BlkOk X.N X.env.scope scope own)
    (hg : ∀ (s : Shared) (H : Hp) (C : Addr) (cl : List (Str × Addr)) (fp : List Addr), GS (X.blk s H scope (compEnvC scope cl C X.env) fp) (tb X) tg S g) (ht : ∀ (s : Shared) (H : Hp) (C : Addr) (cl : List (Str × Addr)) (fp : List Addr), PTs (X.blk s H scope (compEnvC scope cl C X.env) fp) ifs (rdT (tb X) tt))
    (he : ∀ (s : Shared) (H : Hp) (C : Addr) (cl : List (Str × Addr)) (fp : List Addr), PE (X.blk s H scope (compEnvC scope cl C X.env) fp) elt (rdE (tb X) te)) (hs : ∀ x, foldedSetIterable iter X.env x = pure x := by intro _; rfl) :
    ES X W (.ListComp elt [⟨tg, iter, ifs, 0⟩] scope pos) (cmpE mkLst fi (own.map (·.2)) g tt te) :=
  pe_imp (pe_lc hc hN hi ok hg ht he hs) fun σ H Q h => rd_cmp hS h
/-- name = [..] -/
theorem ss_cmp {i : Nat} {y : Str} {py spos : Pos} (hS : ∀ i ∈ S, i ∈ own.map (·.2)) (hc : X.calm = true) (hN : X.N.Nodup) (hy : X.N[i]? = some y) (hyl : X.env.scope.names.lookup y = some .local) (hsw : swapsWith (.ListComp elt [⟨tg, iter, ifs, 0⟩] scope pos) (some (.Name y py)) spos.line X.env = pure true) (hi : IS X W tg iter fi) (ok : BlkOk X.N X.env.scope scope own)
    (hg : ∀ (s : Shared) (H : Hp) (C : Addr) (cl : List (Str × Addr)) (fp : List Addr), GS (X.blk s H scope (compEnvC scope cl C X.env) fp) (tb X) tg S g) (ht : ∀ (s : Shared) (H : Hp) (C : Addr) (cl : List (Str × Addr)) (fp : List Addr), PTs (X.blk s H scope (compEnvC scope cl C X.env) fp) ifs (rdT (tb X) tt))
    (he : ∀ (s : Shared) (H : Hp) (C : Addr) (cl : List (Str × Addr)) (fp : List Addr), PE (X.blk s H scope (compEnvC scope cl C X.env) fp) elt (rdE (tb X) te)) (hs : ∀ x, foldedSetIterable iter X.env x = pure x := by intro _; rfl) :
    SS X W (.Assign [.Name y py] (.ListComp elt [⟨tg, iter, ifs, 0⟩] scope pos) spos) (sSet i (cmpE mkLst fi (own.map (·.2)) g tt te)) :=
  ps_imp (ps_setLc hc hN hy hyl hsw hi ok hg ht he hs) fun E σ H ⟨μ, m, h, S, V, hp⟩ => rd_cmp hS ⟨μ, m, h, S, V, PostS.bnd hp fun d h' m' H' v _ S' X' r hp' => hp' m' H' _ S' Ext.refl ((V.mono X').set r i)⟩
theorem ts_yes : PTs X [] (rdT (tb X) yesT) := ⟨fun pins s σ H Q I ⟨μ, m, h, S, V, hp⟩ => pts_nil.run pins s σ H Q I (Post.ret hp S rfl)⟩
theorem ts_one {c : Expr} {f : Ev → M Bool} {T : Tx} (h : PT X c (rdT T f)) : PTs X [c] (rdT T f) := pts_one h
end
end MP
/-! MP6: defs, their calls, the law's end (nothing is being shown when they are called). -/
namespace MP
open PySem PySem.Spec PyProof.Rows L2

/-! ### leaving a def: its own cells are frozen or forgotten -/
mutual
def lowD (n : Nat) : D → Bool
  | .p _ => true
  | .cell k => decide (k < n)
  | .mix xs => lowDs n xs
  | .glob _ => true
  | .ty _ => true
def lowDs (n : Nat) : List D → Bool
  | [] => true
  | x :: xs => lowD n x && lowDs n xs
end
def lowC (n : Nat) : C → Bool
  | .lst xs => lowDs n xs
  | .dct kvs => lowDs n (kvs.map (·.2))
  | .obj _ fs => lowDs n (fs.map (·.2))
def low (n : Nat) (h : Hm) : Bool := h.all (lowC n)
mutual
def frz (n : Nat) (h : Hm) : D → Option D
  | .p x => some (.p x)
  | .cell k => if k < n then some (.cell k) else match h[k]? with
    | some (.lst xs) => (plain xs).map fun ys => .p (.list ys)
    | some (.dct kvs) => (plain (kvs.map (·.2))).map fun vs => .p (.dict ((kvs.map (·.1)).zip vs))
    | _ => none
  | .mix xs => (frzs n h xs).map fun ys => match plain ys with
    | some zs => .p (.tuple zs)
    | none => .mix ys
  | .glob x => some (.glob x)
  | .ty m => some (.ty m)
def frzs (n : Nat) (h : Hm) : List D → Option (List D)
  | [] => some []
  | x :: xs => (frz n h x).bind fun y => (frzs n h xs).map fun ys => y :: ys
end
/-- behind a def: n cells were there at its entry -/
def leave (n : Nat) (d : D) (h : Hm) : R D := if h.length = n then .ok d h else if low n (h.take n) = true then (match frz n h d with
    | some d' => .ok d' (h.take n)
    | none => .bad) else .bad
/-- .. keeping the new ones -/
def leaveK (n : Nat) (d : D) (h : Hm) : R D := .ok d h
def fnM (lv : Nat → D → Hm → R D) (N : Nat) (body : Ev → M Fl) : List D → M D := fun ds h => match body (ds.map some ++ List.replicate (N - ds.length) none) h with
  | .ok (.rt d) h' => lv h.length d h'
  | .ok (.nx _) h' => lv h.length (.p .none) h'
  | .exc e h' => .exc e h'
  | _ => .bad

def Mm.cut (m : Mm) (n : Nat) : Mm := ⟨m.c.take n, m.v⟩
section
variable {K : PySem.W.Frag} {mg : Str → Option Value} {m m' : Mm} {H H' : Hp} {h h' : Hm}
theorem Mm.cut_sub {n : Nat} {a : Addr} (h : a ∈ m.cut n) : a ∈ m := h.imp (fun z => List.mem_of_mem_take z) id
theorem fro_cut {n : Nat} : Fro m H (m.cut n) H := fun a u r z => ⟨r, fun q => z (Mm.cut_sub q)⟩
theorem cut_at {n k : Nat} {a : Addr} (hk : k < n) (e : m.c[k]? = some a) : (m.cut n).c[k]? = some a := by
  show (m.c.take n)[k]? = some a
  rw [List.getElem?_take_of_lt hk]
  exact e
mutual
theorem Rep.cut {n : Nat} : ∀ (d : D) (v : V), lowD n d = true → Rep K mg m H d v → Rep K mg (m.cut n) H d v
  | .p x, v, _, r => by
    simp only [Rep] at r ⊢
    exact RepP.fro fro_cut x v r
  | .cell k, v, e, r => by
    simp only [Rep] at r ⊢
    obtain ⟨a, rfl, ha⟩ := r
    exact ⟨a, rfl, cut_at (by simpa only [lowD, decide_eq_true_eq] using e) ha⟩
  | .mix xs, v, e, r => by
    simp only [Rep] at r ⊢
    obtain ⟨a, vs, rfl, f, r⟩ := r
    exact ⟨a, vs, rfl, f.fro fro_cut, RepA.cut xs vs (by simpa only [lowD] using e) r⟩
  | .glob x, v, _, r => by simpa only [Rep] using r
  | .ty x, v, _, r => by simpa only [Rep] using r
theorem RepA.cut {n : Nat} : ∀ (ds : List D) (vs : List V), lowDs n ds = true → RepA K mg m H ds vs → RepA K mg (m.cut n) H ds vs
  | [], vs, _, r => by simpa only [RepA] using r
  | d :: ds, vs, e, r => by
    simp only [RepA] at r ⊢
    simp only [lowDs, Bool.and_eq_true] at e
    obtain ⟨v, r', rfl, h1, h2⟩ := r
    exact ⟨v, r', rfl, Rep.cut d v e.1 h1, RepA.cut ds r' e.2 h2⟩
end
theorem CellR.cut {n : Nat} {a : Addr} {c : C} (e : lowC n c = true) (r : CellR K mg m H a c) : CellR K mg (m.cut n) H a c := by
  cases c with
  | lst xs => obtain ⟨vs, q, r⟩ := r; exact ⟨vs, q, RepA.cut _ _ e r⟩
  | dct kvs => obtain ⟨vs, r, q⟩ := r; exact ⟨vs, RepA.cut _ _ e r, q⟩
  | obj cls fs => obtain ⟨c, dx, gs, g, q, r⟩ := r; exact ⟨c, dx, gs, g, q, r.1, RepA.cut _ _ e r.2⟩
theorem Sim.cut {n : Nat} (S : Sim K mg m H h) (hn : n ≤ h.length) (e : low n (h.take n) = true) : Sim K mg (m.cut n) H (h.take n) := by
  refine ⟨by simp only [Mm.cut, List.length_take, S.len], (List.take_sublist n m.c).nodup S.nd, fun a ha => ⟨(S.pv a ha).1, fun z => (S.pv a ha).2 (List.mem_of_mem_take z)⟩, fun k a c ha hc => ?_⟩
  have hk : k < n := by
    rcases Nat.lt_or_ge k n with q | q
    · exact q
    · rw [List.getElem?_eq_none (by simp only [List.length_take]; omega)] at hc; cases hc
  have ha' : m.c[k]? = some a := by
    have : (m.c.take n)[k]? = some a := ha
    rwa [List.getElem?_take_of_lt hk] at this
  have hc' : h[k]? = some c := by rwa [List.getElem?_take_of_lt hk] at hc
  exact (S.at_ k a c ha' hc').cut (List.all_eq_true.mp e c (List.mem_of_getElem? hc))
mutual
theorem Rep.frz {n : Nat} (S : Sim K mg m H h) : ∀ (d d' : D) (v : V), MP.frz n h d = some d' → Rep K mg m H d v → Rep K mg (m.cut n) H d' v
  | .p x, d', v, e, r => by
    simp only [MP.frz, Option.some.injEq] at e
    subst e
    exact Rep.cut (.p x) v rfl r
  | .cell k, d', v, e, r => by
    simp only [MP.frz] at e
    by_cases hk : k < n
    · rw [if_pos hk] at e
      cases e
      exact Rep.cut (.cell k) v (decide_eq_true hk) r
    · rw [if_neg hk] at e
      simp only [Rep] at r
      obtain ⟨a, rfl, ha⟩ := r
      have nin : a ∉ m.cut n := by
        rintro (z | z)
        · obtain ⟨j, hj⟩ := List.getElem?_of_mem z
          have hj' : (m.c.take n)[j]? = some a := hj
          have jl : j < n := by
            rcases Nat.lt_or_ge j n with q | q
            · exact q
            · rw [List.getElem?_eq_none (by simp only [List.length_take]; omega)] at hj'; cases hj'
          rw [List.getElem?_take_of_lt jl] at hj'
          exact hk (by rw [nodup_at S.nd ha hj']; exact jl)
        · exact (S.pv a z).2 (List.mem_of_getElem? ha)
      cases q : h[k]? with
      | none => rw [q] at e; cases e
      | some c =>
        rw [q] at e
        have cr := S.at_ k a c ha q
        cases c with
        | lst xs =>
          simp only [Option.map_eq_some_iff] at e
          obtain ⟨ys, e, rfl⟩ := e
          obtain ⟨vs, hv, rv⟩ := cr
          simp only [Rep, RepP]
          exact ⟨a, vs, rfl, .inl ⟨.inl hv, nin⟩, RepPs.fro fro_cut _ _ (plain_rep e rv)⟩
        | dct kvs =>
          simp only [Option.map_eq_some_iff] at e
          obtain ⟨ys, e, rfl⟩ := e
          obtain ⟨vs, rv, hv⟩ := cr
          have rp := plain_rep e rv
          have hl : (kvs.map (·.1)).length = ys.length := by
            have h1 := rp.length
            have h2 := rv.length
            simp only [List.length_map] at h2 ⊢
            omega
          simp only [Rep, RepP]
          refine ⟨a, vs, rfl, ⟨nin, ?_⟩, repVs_iff.mpr ?_⟩
          · rw [List.map_fst_zip (Nat.le_of_eq hl)]
            exact hv.imp (fun ⟨kk, a, b⟩ => ⟨kk, .inl a, b⟩) fun ⟨kk, a, b⟩ => ⟨kk, .inl a, b⟩
          · rw [List.map_snd_zip (Nat.le_of_eq hl.symm)]
            exact RepPs.fro fro_cut _ _ rp
        | obj cls fs => cases e
  | .mix xs, d', v, e, r => by
    simp only [MP.frz, Option.map_eq_some_iff] at e
    obtain ⟨ys, e, e2⟩ := e
    simp only [Rep] at r
    obtain ⟨a, vs, rfl, f, r⟩ := r
    have r' := RepA.frz S xs ys vs e r
    cases q : plain ys with
    | some zs =>
      rw [q] at e2
      subst e2
      simp only [Rep, RepP]
      exact ⟨a, vs, rfl, f.fro fro_cut, plain_rep q r'⟩
    | none =>
      rw [q] at e2
      subst e2
      simp only [Rep]
      exact ⟨a, vs, rfl, f.fro fro_cut, r'⟩
  | .glob x, d', v, e, r => by
    simp only [MP.frz, Option.some.injEq] at e
    subst e
    simpa only [Rep] using r
  | .ty x, d', v, e, r => by
    simp only [MP.frz, Option.some.injEq] at e
    subst e
    simpa only [Rep] using r
theorem RepA.frz {n : Nat} (S : Sim K mg m H h) : ∀ (ds ds' : List D) (vs : List V), MP.frzs n h ds = some ds' → RepA K mg m H ds vs → RepA K mg (m.cut n) H ds' vs
  | [], ds', vs, e, r => by
    simp only [MP.frzs, Option.some.injEq] at e
    subst e
    simpa only [RepA] using r
  | d :: ds, ds', vs, e, r => by
    simp only [MP.frzs, Option.bind_eq_some_iff, Option.map_eq_some_iff] at e
    obtain ⟨y, e1, ys, e2, rfl⟩ := e
    simp only [RepA] at r ⊢
    obtain ⟨v, r', rfl, h1, h2⟩ := r
    exact ⟨v, r', rfl, Rep.frz S d y v e1 h1, RepA.frz S ds ys r' e2 h2⟩
end
end
/-- a way of leaving -/
def Lv (lv : Nat → D → Hm → R D) : Prop :=
  ∀ (T : Tx) (m : Mm) (H : Hp) (h : Hm) (m' : Mm) (H' : Hp) (h' : Hm) (d : D) (v : V) (Q : VK), Sim T.K T.mg m H h → Sim T.K T.mg m' H' h' → Ext m H m' H' → Rep T.K T.mg m' H' d v → Post T m H (Rep T.K T.mg) (lv h.length d h') Q → Q v H'
theorem lv_keep : Lv leaveK := fun T m H h m' H' h' d v Q S S' X r q => q m' H' v S' X r
theorem lv_leave : Lv leave := fun T m H h m' H' h' d v Q S S' X r q => by
  unfold leave at q
  by_cases hl : h'.length = h.length
  · rw [if_pos hl] at q
    exact q m' H' v S' X r
  · rw [if_neg hl] at q
    by_cases lo : low h.length (h'.take h.length) = true
    · rw [if_pos lo] at q
      cases e : frz h.length h' d with
      | none => rw [e] at q; exact q.elim
      | some d' =>
        rw [e] at q
        obtain ⟨t, et, ht⟩ := X.pre
        have hn : h.length ≤ h'.length := by rw [← S.len, ← S'.len, et, List.length_append]; omega
        have em : m'.cut h.length = m := by
          unfold Mm.cut
          rw [et, X.same, ← S.len, List.take_left]
        have S2 := S'.cut hn lo
        rw [em] at S2
        have r2 := Rep.frz (n := h.length) S' d d' v e r
        rw [em] at r2
        exact q m H' v S2 ⟨⟨[], by simp, by simp⟩, rfl, X.keep⟩ r2
    · rw [if_neg lo] at q; exact q.elim

/-! ### what a def promises, nothing being shown -/
structure FG (P : Program) (w : World) (K : PySem.W.Frag) (mg : Str → Option Value) (base : Heap) (CX : CXT) (k : Nat) (f : Addr) (fd : FuncData) (ps : List Str) (sp : Sp) : Prop where
  len : ∀ vs H Q E, sp vs H Q E → vs.length = ps.length
  run : ∀ (A : Around) (outer : List Env) (s : Shared) (H : Hp) (args : Args) (us : List Value) (vs : List V) (Q : VK) (E : XK), Room k A → A.guards = some [] → Env0 P w K mg base A outer s H → BindsTo s fd args (ps.zip us) → Vals vs us → sp vs H Q E →
    codeAny (model P w) A (.call (.ref f) args) (CR CX outer P w H s Q E) s
def spF (K : PySem.W.Frag) (mg : Str → Option Value) (n : Nat) (F : List D → M D) : Sp := fun vs H Q E =>
  vs.length = n ∧ ∃ ds m h, Sim K mg m H h ∧ RepA K mg m H ds vs ∧ Post ⟨K, mg, E⟩ m H (Rep K mg) (F ds h) Q
theorem FG.up {P : Program} {w : World} {K : PySem.W.Frag} {mg : Str → Option Value} {base : Heap} {CX : CXT} {j k : Nat} {f : Addr} {fd : FuncData} {ps : List Str} {sp : Sp} (F : FG P w K mg base CX j f fd ps sp) (h : j ≤ k) : FG P w K mg base CX k f fd ps sp :=
  ⟨F.len, fun A o s H a us vs Q E hr => F.run A o s H a us vs Q E (hr.mono h)⟩
section
variable {P : Program} {w : World} {K : PySem.W.Frag} {mg : Str → Option Value} {base : Heap} {CX : CXT}
/-- a def by its body -/
theorem fg_body {x qual : Str} {st : Stmt} {f : Addr} {fd : FuncData} {N ps : List Str} {k : Nat} {sp : Sp} (F : Fun K x qual st f fd) (S : FnScope N ps (defScope st)) (len : ∀ vs H Q E, sp vs H Q E → vs.length = ps.length)
    (hb : ∀ (cdv : Value) (A : Around) (outer : List Env) (s : Shared) (H : Hp) (vs : List V) (Q : VK) (E : XK), Room k (A.deeper (envOfC qual (defScope st) s.heap.objs.size f cdv)) → (A.deeper (envOfC qual (defScope st) s.heap.objs.size f cdv)).guards = some [] → sp vs H Q E →
      ∃ t, PSs (cxOf CX P w K mg base N qual (defScope st) f cdv A outer s H E) (defBody st) t ∧ t { nx := fun _ H' => Q .non H', rt := Q } (L2.start N vs) H) : FG P w K mg base CX (k + 1) f fd ps sp := by
  obtain ⟨oc, od, kV, doc, pm, an, cdv, ct, osl, rfl, at_f, at_c⟩ := F.ex
  refine ⟨len, fun A outer s H args us vs Q E room gd env bd rel want => ?_⟩
  have kin : K.In s.heap := env.mod.kin.keeps fun b o e => (env.bs b o e).1
  have nol : s.heap.NoLimit := env.mod.nolimit.keeps fun b o e => (env.bs b o e).1
  have kinds : ∀ y ∈ ps.zip us, (defScope st).names.lookup y.1 = some .local ∨ ((defScope st).names.lookup y.1 = some .cell ∧ ((cellsFrom (s.heap.objs.size + 1) (defScope st).names []).lookup y.1).isSome = true) := by
    rintro ⟨nm, val⟩ hy
    have par := S.par nm (List.of_mem_zip hy).1
    exact par.imp id fun q => ⟨q, PySem.W.cellsFrom_some _ _ _ (.inl q)⟩
  refine codeAny_call_function room.depth (kin _ _ at_f) rfl S.co S.gen rfl (PySem.W.codeRec_of kin at_c) (bd _ _ _ _ ?_)
  refine wpAny_newFunctionEnv_cells S.kind kinds fun env' he s1 ic => ?_
  subst he
  refine ⟨nol.keeps ic.toInCall.keep, codeAny_func ?_⟩
  obtain ⟨t, body, tq⟩ := hb cdv A outer s H vs Q E (room.deeper _) gd want
  have I0 : Inv (cxOf CX P w K mg base N qual (defScope st) f cdv A outer s H E) [] (L2.start N vs) H s1 := inv_start S room.hd env (len _ _ _ _ want) rel ic
  refine wpAny_mono (body.run [] s1 (L2.start N vs) H _ I0 tq) (fun fl s' at_end => ?_) fun _ _ z => z
  match fl, at_end with
  | .ret u, ⟨v, σ', H', J, rv, q⟩ => exact (⟨v, H', J.os, J.bare, J.base, J.hok, rv, q⟩ : CE outer P w H s Q u s')
  | .next, ⟨σ', H', J, q⟩ => exact (⟨.non, H', J.os, J.bare, J.base, J.hok, rfl, q⟩ : CE outer P w H s Q .none s')
  | .brk, ⟨_, _, _, q⟩ => exact q.elim
  | .cont, ⟨_, _, _, q⟩ => exact q.elim
theorem start_env {K : PySem.W.Frag} {mg : Str → Option Value} {m : Mm} {H : Hp} {N : List Str} {ds : List D} {vs : List V} (r : RepA K mg m H ds vs) : EnvR K mg m H (ds.map some ++ List.replicate (N.length - ds.length) none) (L2.start N vs) := by
  have hl := r.length
  refine ⟨by simp [L2.start, hl], fun i d e => ?_⟩
  unfold L2.start
  rcases Nat.lt_or_ge i ds.length with q | q
  · rw [List.getElem?_append_left (by simpa using q), List.getElem?_map] at e
    simp only [Option.map_eq_some_iff, Option.some.injEq, exists_eq_right] at e
    obtain ⟨v, hv, rv⟩ := repA_at r e
    refine ⟨v, ?_, rv⟩
    rw [List.getElem?_append_left (by simpa [hl] using q), List.getElem?_map, hv]
    rfl
  · rw [List.getElem?_append_right (by simpa using q), List.getElem?_replicate] at e
    split at e <;> simp at e
/-- a def that raises nothing -/
theorem fg_fn {x qual : Str} {st : Stmt} {f : Addr} {fd : FuncData} {N ps : List Str} {k n : Nat} {lv : Nat → D → Hm → R D} {body : Ev → M Fl} (F : Fun K x qual st f fd) (S : FnScope N ps (defScope st)) (hlv : Lv lv) (hn : ps.length = n)
    (hb : ∀ (cdv : Value) (A : Around) (outer : List Env) (s : Shared) (H : Hp) (E : XK), Room k (A.deeper (envOfC qual (defScope st) s.heap.objs.size f cdv)) → (A.deeper (envOfC qual (defScope st) s.heap.objs.size f cdv)).guards = some [] →
      BS (cxOf CX0 P w K mg base N qual (defScope st) f cdv A outer s H E).nox E0 (defBody st) body) : FG P w K mg base CX0 (k + 1) f fd ps (spF K mg n (nox ∘ fnM lv N.length body)) := by
  refine fg_body F S (fun vs H Q E h => h.1.trans hn.symm) fun cdv A outer s H vs Q E room gd h => ?_
  obtain ⟨hl, ds, m, h0, Sm, r, hp⟩ := h
  refine ⟨_, (hb cdv A outer s H E room gd).nox, _, m, h0, Sm, start_env r, ?_⟩
  obtain ⟨d0, h9, e9, hp⟩ := Post.nox hp
  unfold fnM at e9
  cases eb : body (ds.map some ++ List.replicate (N.length - ds.length) none) h0 with
  | ok fl h' =>
    rw [eb] at e9
    cases fl with
    | rt d =>
      intro m' H' v S' X' rv
      refine hlv ⟨K, mg, E⟩ m H h0 m' H' h' d v Q Sm S' X' rv ?_
      rw [show lv h0.length d h' = _ from e9]
      exact hp
    | nx μ =>
      intro m' H' σ' S' X' V'
      refine hlv ⟨K, mg, E⟩ m H h0 m' H' h' (.p .none) .non Q Sm S' X' (by simp [Rep, RepP]) ?_
      rw [show lv h0.length (.p .none) h' = _ from e9]
      exact hp
    | bk μ => cases e9
    | ct μ => cases e9
  | exc x h' => rw [eb] at e9; cases e9
  | bad => rw [eb] at e9; cases e9
end

/-! ### calls -/
section
variable {X : Cx} {W : XK} {CX : CXT} {k : Nat} {f : Addr} {fd : FuncData} {ps : List Str} {sp : Sp} {dvs : List V} {ds : List Value} {E : XK} {x : Str} {p pos : Pos} {e : Expr} {es : List Expr}
theorem run_g {pins : List (Addr × Obj)} {σ : L2.St} {H : Hp} {s : Shared} {Q : VK} {us : List Value} {vs : List V} (F : FG X.prog X.w X.K X.mg X.base CX k f fd ps sp) (hr : Room k X.A) (gd : X.A.guards = some []) (hb : Binds X.K fd ps ds) (hd : Vals dvs ds) (hx : Passes CX X E)
    (I : Inv X pins σ H s) (r : Vals vs us) (want : sp (vs ++ dvs) H Q E) : wpAny (model X.prog X.w) X.A (call (.ref f) us) (EP X pins σ Q) X.xe s := by
  have both : Vals (vs ++ dvs) (us ++ ds) := r.append hd
  refine wpAny_call (codeAny_mono (F.run X.A X.stack s H ⟨us, []⟩ (us ++ ds) (vs ++ dvs) Q E hr gd I.env0 (hb s us I.kIn (both.length.symm.trans (F.len _ _ _ _ want))) both want) fun res s' out => ?_)
  match res, out with
  | .error ex, out => exact hx pins σ H s ex s' I out
  | .ok (.ret u), out => exact I.after out
  | .ok .next, out => exact out.elim
  | .ok .brk, out => exact out.elim
  | .ok .cont, out => exact out.elim
theorem pe_callG {t : TA} (F : FG X.prog X.w X.K X.mg X.base CX k f fd ps sp) (hr : Room k X.A) (gd : X.A.guards = some []) (hg : Gl X x) (hm : X.mg x = some (.ref f)) (hk : PySem.W.keepIn X.K (.ref f) = true) (hb : Binds X.K fd ps ds) (hd : Vals dvs ds) (hx : Passes CX X E)
    (ha : PA X (e :: es) t) (hdb : (x == ("__debug__" : Str)) = false := by decide) (he : starEach (e :: es) X.env = (false, eval e X.env) :: starEach es X.env := by rfl) (hpl : (backTo pos (starEach es X.env)).any (·.1) = false := by rfl) :
    PE X (.Call (.Name x p) (e :: es) [] pos) (tCall sp dvs E t) :=
  ⟨fun pins s σ H Q I want => wpAny_Call_Name_kw (ld_glob I hg hm (PySem.W.callWith_K (h₀ := X.base) I.ok.mod.kin hk (thn (ha.run pos pins s σ H _ I want) fun us s1 ⟨vs, H1, I1, r, q⟩ => ⟨I1.kIn, run_g F hr gd hb hd hx I1 r q⟩) he hpl) hdb)⟩
theorem pe_callG0 (F : FG X.prog X.w X.K X.mg X.base CX k f fd ps sp) (hr : Room k X.A) (gd : X.A.guards = some []) (hg : Gl X x) (hm : X.mg x = some (.ref f)) (hk : PySem.W.keepIn X.K (.ref f) = true) (hb : Binds X.K fd ps ds) (hd : Vals dvs ds) (hx : Passes CX X E)
    (hdb : (x == ("__debug__" : Str)) = false := by decide) : PE X (.Call (.Name x p) [] [] pos) (tCall sp dvs E tNil) :=
  ⟨fun pins s σ H Q I want => wpAny_Call_Name_kw (ld_glob I hg hm (PySem.W.callWith_K0 I.kIn hk (run_g (us := []) F hr gd hb hd hx I .nil want)) hdb)⟩
/-- what a caller knows of a def of the module -/
structure Def (P : Program) (w : World) (K : PySem.W.Frag) (mg : Str → Option Value) (base : Heap) (k : Nat) (x : Str) (n : Nat) (F : List D → M D) : Prop where
  ex : ∃ (f : Addr) (fd : FuncData) (ps : List Str), FG P w K mg base CX0 k f fd ps (spF K mg n F) ∧ mg x = some (.ref f) ∧ PySem.W.keepIn K (.ref f) = true ∧ Binds K fd ps []
def appN (n : Nat) (F : List D → M D) (fa : Ev → M (List D)) : Ev → M D := fun μ => bnd (fa μ) fun xs => chk (xs.length = n) (F xs)
theorem es_call {j n : Nat} {F : List D → M D} {fa : Ev → M (List D)} (d : Def X.prog X.w X.K X.mg X.base k x n (nox ∘ F)) (hr : Room j X.A) (hk : k ≤ j) (gd : X.A.guards = some []) (hg : Gl X x) (ha : AS X W (e :: es) fa) (hdb : (x == ("__debug__" : Str)) = false := by decide)
    (he : starEach (e :: es) X.env = (false, eval e X.env) :: starEach es X.env := by rfl) (hpl : (backTo pos (starEach es X.env)).any (·.1) = false := by rfl) :
    ES X W (.Call (.Name x p) (e :: es) [] pos) (appN n (nox ∘ F) fa) := by
  obtain ⟨f, fd, ps, FF, hm, kp, hb⟩ := d.ex
  refine pe_imp (pe_callG (dvs := []) (ds := []) (E := E0) FF (hr.mono hk) gd hg hm kp hb .nil pass0 ha hdb he hpl) fun σ H Q ⟨μ, m, h, S, V, hp⟩ => ⟨μ, m, h, S, V, Post.bnd hp fun xs h1 m1 H1 vs _ S1 X1 r1 hp1 => ?_⟩
  obtain ⟨hl, hp1⟩ := chk_post hp1
  have hp2 := hp1
  obtain ⟨d0, h9, e9, hp1⟩ := Post.nox hp1
  refine ⟨by rw [List.append_nil, r1.length]; exact hl, xs, m1, h1, S1, by rw [List.append_nil]; exact r1, ?_⟩
  have e0 : (nox ∘ F) xs h1 = .ok d0 h9 := by
    show nox (F xs) h1 = _
    unfold nox
    rw [e9]
  rw [e0]
  exact hp1
theorem es_call0 {j : Nat} {F : List D → M D} (d : Def X.prog X.w X.K X.mg X.base k x 0 (nox ∘ F)) (hr : Room j X.A) (hk : k ≤ j) (gd : X.A.guards = some []) (hg : Gl X x) (hdb : (x == ("__debug__" : Str)) = false := by decide) :
    ES X W (.Call (.Name x p) [] [] pos) (fun _ => (nox ∘ F) []) := by
  obtain ⟨f, fd, ps, FF, hm, kp, hb⟩ := d.ex
  refine pe_imp (pe_callG0 (dvs := []) (ds := []) (E := E0) FF (hr.mono hk) gd hg hm kp hb .nil pass0 hdb) fun σ H Q ⟨μ, m, h, S, V, hp⟩ => ?_
  obtain ⟨d0, h9, e9, hp⟩ := Post.nox hp
  refine ⟨rfl, [], m, h, S, by simp [RepA], ?_⟩
  have e0 : (nox ∘ F) [] h = .ok d0 h9 := by
    show nox (F []) h = _
    unfold nox
    rw [e9]
  rw [e0]
  exact hp
end

/-! ### the law's end -/
theorem only_rep {K : PySem.W.Frag} {H : Hp} {a : Addr} {ns : List Int} (hS : SqL K H a (ns.map V.int)) : RepP K ⟨[], []⟩ H (.list (ns.map .int)) (.ref a) := by
  simp only [RepP]
  have nums : ∀ ns : List Int, RepPs K ⟨[], []⟩ H (ns.map .int) (ns.map V.int) := fun ns => by
    induction ns with
    | nil => simp [RepPs]
    | cons n ns ih => simp only [List.map_cons, RepPs, RepP]; exact ⟨_, _, rfl, rfl, ih⟩
  refine ⟨a, _, rfl, ?_, nums ns⟩
  rcases hS with h | h
  · exact .inl ⟨h, fun z => by rcases z with z | z <;> cases z⟩
  · exact .inr (.inr h)
theorem sim_nil {K : PySem.W.Frag} {mg : Str → Option Value} {H : Hp} : Sim K mg ⟨[], []⟩ H [] := ⟨rfl, .nil, (fun a h => by cases h), (fun n a c h => by simp at h)⟩
/-- the call of the law's def behind the top -/
theorem law_callG {P : Program} {w : World} {K : PySem.W.Frag} {mg mb : Str → Option Value} {k : Nat} {fa a : Addr} {fd : FuncData} {x : Str} {F : List D → M D} {s1 : Shared} {vs : List Value} {ns : List Int}
    (kin : K.In s1.heap) (gns : s1.heap.Ns mainGlobals mg) (bns : s1.heap.Ns builtinsNs mb) (bb : ∀ x : Str, x ≠ "__name__" → mb x = bootBuiltins x) (nol : s1.heap.NoLimit) (gens : s1.gens = #[])
    (at_a : s1.heap.get? a = some { cls := .type "list", data := .seq vs.toArray }) (nums : IntsAre vs ns) (few : ns.length ≤ sizeLine) (room : Room k callerA)
    (FF : ∀ base : Heap, K.In base → base.Ns mainGlobals mg → FG P w K mg base CX0 k fa fd [x] (spF K mg 1 F)) (bd : ∀ (s : Shared) (u : Value), BindsTo s fd ⟨[u], []⟩ [(x, u)])
    (law : ∃ h', F [.p (.list (ns.map .int))] [] = .ok (.p (.bool true)) h') :
    codeAny (model P w) callerA (.call (.ref fa) ⟨[.ref a], []⟩) (fun r s' => r = .ok (.ret (.bool true)) ∧ OldK s1.heap s'.heap ∧ s'.os = s1.os ∧ AllBare s'.gens) s1 := by
  obtain ⟨hz, law⟩ := law
  have rv : Vals (ns.map V.int) vs := L2.vals_ints nums
  have same_len := nums.length
  -- H holds the script alone, or nothing
  have main : ∀ H : Hp, (∀ b u, H b = some u → b = a ∧ ∃ o xs, u = .frz o (.lst xs)) → SqL K H a (ns.map V.int) → HOk P w H s1.heap → (K.lookup a ≠ none → H a = none) →
      codeAny (model P w) callerA (.call (.ref fa) ⟨[.ref a], []⟩) (fun r s' => r = .ok (.ret (.bool true)) ∧ OldK s1.heap s'.heap ∧ s'.os = s1.os ∧ AllBare s'.gens) s1 := by
    intro H alone hS ok kfree
    have under : ∀ {b : Addr} {m : Str → Option Value}, s1.heap.Ns b m → (hidT s1.heap H).Ns b m := by
      rintro b m ⟨o, es, ep, e, d, r⟩
      refine ⟨o, es, ep, hidT_get e ?_, d, r⟩
      cases q : H b with
      | none => rfl
      | some u =>
        obtain ⟨rfl, _⟩ := alone b u q
        rw [at_a] at e
        cases e
        exact absurd (show Data.seq vs.toArray _ = Data.dict es ep from d) (fun z => nomatch z)
    have kbase : K.In (hidT s1.heap H) := fun b o e => hidT_get (kin b o e) (by
      cases q : H b with
      | none => rfl
      | some u =>
        obtain ⟨rfl, _⟩ := alone b u q
        rw [kfree (by rw [e]; simp)] at q
        cases q)
    obtain ⟨mc, n1, n2⟩ := nol
    have md : Mod K mg (hidT s1.heap H) := { kin := kbase, glob := under gns, blt := ⟨mb, under bns, bb⟩, nolimit := ⟨mc, under n1, n2⟩ }
    have env : Env0 P w K mg (hidT s1.heap H) callerA [] s1 H := { frames := rfl, mod := md, bs := fun b o e => of_hidT e, bsz := Nat.le_of_eq (hidT_size s1.heap H), funs := trivial, frf := fun b hb => (by cases hb), hok := ok, bare := .of_eq gens }
    refine codeAny_mono ((FF _ kbase (under gns)).run callerA [] s1 H ⟨[.ref a], []⟩ [.ref a] [.ref a] (fun v _ => v = .bl true) E0 room rfl env (bd s1 (.ref a)) (.cons rfl .nil) ⟨rfl, [.p (.list (ns.map .int))], ⟨[], []⟩, [], sim_nil, by simp only [RepA, Rep]; exact ⟨_, _, rfl, only_rep hS, rfl⟩, by
      rw [law]
      intro m' H' b S X r
      simp only [Rep, RepP] at r
      exact r⟩) fun res s' out => ?_
    match res, out with
    | .error _, out => exact out.elim
    | .ok .next, out => exact out.elim
    | .ok .brk, out => exact out.elim
    | .ok .cont, out => exact out.elim
    | .ok (.ret u), ⟨v, H', os, bare, un, ok', rel, q⟩ =>
      have q' : v = .bl true := q
      subst q'
      have eu : u = Value.bool true := rel
      subst eu
      refine ⟨rfl, OldK.of_keep fun b o e => ?_, os, bare⟩
      cases q : H b with
      | none => exact un.keep b o e q (fun z => (by cases z)) (fun z => (by cases z))
      | some t =>
        obtain ⟨rfl, ob, xs, rfl⟩ := alone b t q
        have e1 := (ok b _ q).1
        have e2 := (ok' b _ (un.frzs b ob _ q)).1
        rw [e] at e1
        cases e1
        exact e2
  by_cases hk : K.lookup a = none
  · refine main (fun b => if b = a then some (.frz { cls := .type "list", data := .seq vs.toArray } (.lst (ns.map V.int))) else none) (fun b u q => ?_) (.inl (.inr ⟨_, if_pos rfl⟩)) (fun b u q => ?_) (fun z => absurd hk z)
    · split at q
      · rename_i hb
        exact ⟨hb, _, _, (Option.some.inj q).symm⟩
      · cases q
    · dsimp only at q
      split at q
      · rename_i hb
        cases q
        subst hb
        exact ⟨at_a, by simpa using few, vs, _, rv, at_a⟩
      · cases q
  · obtain ⟨o, ho⟩ := Option.ne_none_iff_exists'.mp hk
    have e := kin a o ho
    rw [at_a] at e
    cases e
    exact main (fun _ => none) (fun b u q => by cases q) (.inr ⟨_, vs.toArray, _, ho, rfl, rfl, rfl, by simpa [same_len] using few, by simpa using rv⟩) (fun b u q => by cases q) (fun _ => rfl)
/-- what k_head leaves, from the law's mini function -/
theorem law_end {l : PySem.W.OpenLaw} {n k : Nat} {q : Program} {loose : List Str} {XP : (Str → Option Value) → Heap → Prop} {YP : World → Heap → Prop} {d : DefRec} {K : Params → PySem.W.Frag} {x : Str} {F : List D → M D}
    (hn : l.most = some n) (few : n ≤ sizeLine) (nodef : d.params.defaults = []) (room : Room k callerA) (hY : ∀ (w : World) (h : Heap), YP w h → (K w.params).In h)
    (FF : ∀ (w : World) (mg : Str → Option Value) (fa : Addr) (h : Heap), (K w.params).In h → h.Ns mainGlobals mg → mg d.name = some (.ref fa) →
      ∃ fd : FuncData, (∀ (s : Shared) (u : Value), BindsTo s fd ⟨[u], []⟩ [(x, u)]) ∧ ∀ base : Heap, (K w.params).In base → base.Ns mainGlobals mg → FG l.prog w (K w.params) mg base CX0 k fa fd [x] (spF (K w.params) mg 1 F))
    (law : ∀ ns : List Int, ns.length ≤ n → ∃ h', F [.p (.list (ns.map .int))] [] = .ok (.p (.bool true)) h') :
    PySem.W.WalkO q loose XP YP l.row.toRowW d [] (fun f vs => PySem.call f vs) := by
  refine Att.attach_call hn nodef fun w s0 s1 mg mb fa o pm cd doc a vs ns G Y ho hd hcd hmg hobj nums hlen gens => ?_
  obtain ⟨fd, bd, hF⟩ := FF w mg fa _ (hY w _ Y) G.T.g hmg
  exact law_callG (hY w _ Y) G.T.g G.T.b G.T.builtins G.T.nolimit gens hobj nums (Nat.le_trans hlen few) room hF bd (law ns hlen)
end MP
/-! MP7: short forms for what a program of ours prints. -/
namespace MP
open PySem PySem.Spec PyProof.Rows L2
/-- a def of the module as it stands behind the top -/
structure DefAt (K : PySem.W.Frag) (mg : Str → Option Value) (x : Str) (st : Stmt) (ps : List Str) : Prop where
  ex : ∃ (f : Addr) (fd : FuncData), Fun K x x st f fd ∧ mg x = some (.ref f) ∧ Binds K fd ps []
theorem defAt_mk {K : PySem.W.Frag} {mg : Str → Option Value} {h : Heap} {x : Str} {st : Stmt} {ps : List Str} {f : Addr} {oc : Value} {od an : Option Addr} {osl : Array (Option Value)} {kV doc pm cdv ct : Value}
    (X : K.In h) (G : h.Ns mainGlobals mg) (a : PySem.W.nsIn K mainGlobals x = some (some (.ref f)))
    (l : K.lookup f = some ⟨oc, od, .func (PySem.W.fnOf x x (defArgs st) (defBody st) (defScope st) .none kV doc pm an cdv ct), osl⟩) (c : PySem.W.codeIn K cdv x = true) (k : PySem.W.keepIn K (.ref f) = true)
    (b : ∀ (kV doc pm : Value) (an : Option Addr) (cdv ct : Value) (us : List Value), us.length = ps.length → bindArgs (PySem.W.fnOf x x (defArgs st) (defBody st) (defScope st) .none kV doc pm an cdv ct) ⟨us, []⟩ = pure (ps.zip us)) : DefAt K mg x st ps :=
  ⟨f, _, fun_mk l c k, PySem.W.mg_of X G a, (fun_mk l c k).binds b⟩
section
variable {P : Program} {w : World} {K : PySem.W.Frag} {mg : Str → Option Value} {base : Heap}
/-- a def's mini function, from its body -/
theorem def_of {x : Str} {st : Stmt} {N ps : List Str} {k n : Nat} {lv : Nat → D → Hm → R D} {body : Ev → M Fl} (T : DefAt K mg x st ps) (S : FnScope N ps (defScope st)) (hlv : Lv lv) (hn : ps.length = n)
    (hb : ∀ (f : Addr) (cdv : Value) (A : Around) (outer : List Env) (s : Shared) (H : Hp) (E : XK), Room k (A.deeper (envOfC x (defScope st) s.heap.objs.size f cdv)) → (A.deeper (envOfC x (defScope st) s.heap.objs.size f cdv)).guards = some [] →
      BS (cxOf CX0 P w K mg base N x (defScope st) f cdv A outer s H E).nox E0 (defBody st) body) : Def P w K mg base (k + 1) x n (nox ∘ fnM lv N.length body) := by
  obtain ⟨f, fd, F, hm, b⟩ := T.ex
  exact ⟨f, fd, ps, fg_fn F S hlv hn fun cdv A outer s H E room gd => hb f cdv A outer s H E room gd, hm, F.kp, b⟩
theorem Def.up {j k n : Nat} {x : Str} {F : List D → M D} (d : Def P w K mg base j x n F) (h : j ≤ k) : Def P w K mg base k x n F := by
  obtain ⟨f, fd, ps, FF, r⟩ := d.ex
  exact ⟨f, fd, ps, FF.up h, r⟩
end
section
variable {X : Cx} {W : XK} {x : Str} {pos : Pos}
/-- a constant of the module: an int, a text, a truth, None -/
theorem es_gc {v : V} (d : PyData) (hg : Gl X x) (h : ∃ u, X.mg x = some u ∧ RelV v u) (rp : ∀ m H, RepP X.K m H d v := by intro m H; simp only [RepP]) (hd : (x == ("__debug__" : Str)) = false := by decide) : ES X W (.Name x pos) (cst d) :=
  let ⟨_, hm, r⟩ := h
  es_glob d hg hm r rp hd
/-- a constant of the module that is an object of its own -/
theorem es_go {a : Addr} (d : PyData) (hg : Gl X x) (h : X.mg x = some (.ref a)) (rp : ∀ m H, RepP X.K m H d (.ref a)) (hd : (x == ("__debug__" : Str)) = false := by decide) : ES X W (.Name x pos) (cst d) :=
  es_glob (v := .ref a) d hg h rfl rp hd
end
/-! ### {} -/
def emptyD : M D := ret (.p (.dict []))
def newK : Ev → M D := fun _ h => .ok (.cell h.length) (h ++ [.dct []])
section
variable {X : Cx} {W : XK} {pos : Pos}
theorem es_emptyD : ES X W (.Dict [] [] pos) (fun _ => emptyD) := pe_imp pe_dnewK fun σ H Q ⟨μ, m, h, S, E, hp⟩ => fun p np =>
  hp m _ _ (S.new np) (Ext.new S np) (by simp only [Rep, RepP, RepVs, List.map_nil]; exact ⟨p, [], rfl, ⟨S.notin np, .inl ⟨[], .inl upd_same, rfl, rfl⟩⟩, rfl⟩)
theorem es_newK : ES X W (.Dict [] [] pos) newK := pe_imp pe_dnewK fun σ H Q ⟨μ, m, h, S, E, hp⟩ => fun p np =>
  hp _ _ _ (S.push np (c := .dct []) ⟨[], by simp [RepA], .inl ⟨[], upd_same, rfl, rfl⟩⟩) (Ext.push S np) (by simp only [Rep]; exact ⟨p, rfl, S.push_at⟩)
theorem es_newT : ES X W (.Dict [] [] pos) newK := pe_imp pe_dnewT fun σ H Q ⟨μ, m, h, S, E, hp⟩ => fun p np =>
  hp _ _ _ (S.push np (c := .dct []) ⟨[], by simp [RepA], .inr ⟨[], upd_same, rfl, rfl⟩⟩) (Ext.push S np) (by simp only [Rep]; exact ⟨p, rfl, S.push_at⟩)
end
/-- nothing raised, nothing to stop -/
theorem nox_nox {α : Type} (f : M α) : nox (nox f) = nox f := by
  funext h
  unfold nox
  cases f h <;> rfl
/-- the law's def behind the top, from its mini function -/
theorem law_fn {l : PySem.W.OpenLaw} {w : World} {K : PySem.W.Frag} {mg : Str → Option Value} {fa : Addr} {k : Nat} {n x : Str} {F : List D → M D} (hfa : mg n = some (.ref fa)) {st : Stmt} (T : DefAt K mg n st [x])
    (bd : ∀ (kV doc pm : Value) (an : Option Addr) (cdv ct : Value) (s : Shared) (u : Value), BindsTo s (PySem.W.fnOf n n (defArgs st) (defBody st) (defScope st) .none kV doc pm an cdv ct) ⟨[u], []⟩ [(x, u)])
    (H : ∀ (base : Heap) (f : Addr) (fd : FuncData), Fun K n n st f fd → FG l.prog w K mg base CX0 k f fd [x] (spF K mg 1 F)) :
    ∃ fd : FuncData, (∀ (s : Shared) (u : Value), BindsTo s fd ⟨[u], []⟩ [(x, u)]) ∧ ∀ base : Heap, K.In base → base.Ns mainGlobals mg → FG l.prog w K mg base CX0 k fa fd [x] (spF K mg 1 F) := by
  obtain ⟨f, fd, Ff, hm, _⟩ := T.ex
  rw [hfa] at hm
  cases hm
  obtain ⟨oc, od, kV, doc, pm, an, cdv, ct, osl, rfl, _⟩ := Ff.ex
  exact ⟨_, fun s u => bd kV doc pm an cdv ct s u, fun base _ _ => H base fa _ Ff⟩
end MP
/-! MW: what a mini run comes to, in plain words. -/
namespace MP
open PySem (PyData Str sizeLine)
/-- the run ends, and Q holds of what it gives and of the mini heap then -/
def W {α : Type} (f : M α) (h : Hm) (Q : α → Hm → Prop) : Prop := ∃ a h', f h = .ok a h' ∧ Q a h'
def Wr {α : Type} (r : R α) (Q : α → Hm → Prop) : Prop := ∃ a h', r = .ok a h' ∧ Q a h'
section
variable {α β : Type} {h : Hm} {Q : α → Hm → Prop} {Q' : β → Hm → Prop}
theorem w_def (f : M α) : W f h Q = Wr (f h) Q := rfl
@[simp] theorem wr_ok {a : α} : Wr (.ok a h) Q ↔ Q a h := ⟨fun ⟨_, _, e, q⟩ => by cases e; exact q, fun q => ⟨a, h, rfl, q⟩⟩
@[simp] theorem wr_bad : Wr (.bad : R α) Q ↔ False := ⟨fun ⟨_, _, e, _⟩ => (by cases e), False.elim⟩
@[simp] theorem wr_exc {e : Exn} : Wr (.exc e h : R α) Q ↔ False := ⟨fun ⟨_, _, e, _⟩ => (by cases e), False.elim⟩
@[simp] theorem w_ret {a : α} : W (ret a) h Q ↔ Q a h := wr_ok
@[simp] theorem w_bad : W (bad : M α) h Q ↔ False := wr_bad
@[simp] theorem w_bnd {f : M β} {g : β → M α} : W (bnd f g) h Q ↔ W f h fun a h' => W (g a) h' Q := by
  unfold W bnd
  constructor
  · rintro ⟨a, h', e, q⟩
    cases ef : f h with
    | ok b h1 => rw [ef] at e; exact ⟨b, h1, rfl, a, h', e, q⟩
    | exc x h1 => rw [ef] at e; cases e
    | bad => rw [ef] at e; cases e
  · rintro ⟨b, h1, e, a, h', e2, q⟩
    exact ⟨a, h', by rw [e]; exact e2, q⟩
@[simp] theorem w_chk {c : Prop} [Decidable c] {f : M α} : W (chk c f) h Q ↔ c ∧ W f h Q := by
  unfold W chk
  constructor
  · rintro ⟨a, h', e, q⟩
    by_cases hc : c
    · rw [if_pos hc] at e; exact ⟨hc, a, h', e, q⟩
    · rw [if_neg hc] at e; cases e
  · rintro ⟨hc, a, h', e, q⟩
    exact ⟨a, h', by rw [if_pos hc]; exact e, q⟩
@[simp] theorem w_nox {f : M α} : W (nox f) h Q ↔ W f h Q := by
  unfold W nox
  constructor
  · rintro ⟨a, h', e, q⟩
    cases ef : f h with
    | ok b h1 => rw [ef] at e; cases e; exact ⟨_, _, rfl, q⟩
    | exc x h1 => rw [ef] at e; cases e
    | bad => rw [ef] at e; cases e
  · rintro ⟨a, h', e, q⟩
    exact ⟨a, h', by rw [e], q⟩
@[simp] theorem w_noxc {γ : Type} {f : γ → M α} {x : γ} : W ((nox ∘ f) x) h Q ↔ W (f x) h Q := w_nox
theorem W.mono {f : M α} {P : α → Hm → Prop} (w : W f h Q) (q : ∀ a h', Q a h' → P a h') : W f h P := let ⟨a, h', e, x⟩ := w; ⟨a, h', e, q a h' x⟩
/-- a run that is known -/
theorem w_of {f : M α} {a : α} {h' : Hm} (e : f h = .ok a h') : W f h Q ↔ Q a h' := by rw [w_def, e]; exact wr_ok
@[simp] theorem w_ite {c : Prop} [Decidable c] {f g : M α} : W (if c then f else g) h Q ↔ if c then W f h Q else W g h Q := by split <;> rfl
@[simp] theorem w_rd1 {g : PyData → M α} {x : PyData} : W (rd1 g (.p x)) h Q ↔ W (g x) h Q := Iff.rfl
@[simp] theorem w_rd2 {g : PyData → PyData → M α} {x y : PyData} : W (rd2 g (.p x) (.p y)) h Q ↔ W (g x y) h Q := Iff.rfl
@[simp] theorem w_tyOk {T : String} {x : D} {Q : Unit → Hm → Prop} : W (tyOk T x) h Q ↔ isTyD T h x = true ∧ Q () h := by
  rw [w_def]
  unfold tyOk
  by_cases q : isTyD T h x = true
  · rw [if_pos q, wr_ok]; exact ⟨fun z => ⟨q, z⟩, fun z => z.2⟩
  · rw [if_neg q, wr_bad]; exact ⟨False.elim, fun z => q z.1⟩
end
@[simp] theorem bnd_ret {α β : Type} (a : α) (g : α → M β) : bnd (ret a) g = g a := rfl
@[simp] theorem var_zero (d : D) (μ : Ev) : var 0 (some d :: μ) = ret d := rfl
@[simp] theorem var_succ (o : Option D) (μ : Ev) (i : Nat) : var (i + 1) (o :: μ) = var i μ := rfl
@[simp] theorem cst_eq (x : PyData) (μ : Ev) : cst x μ = ret (.p x) := rfl
section
variable {h : Hm} {Q : Fl → Hm → Prop}
/-- what follows a statement -/
def nxt (g : Ev → M Fl) (Q : Fl → Hm → Prop) : Fl → Hm → Prop := fun o h => match o with
  | .nx μ => W (g μ) h Q
  | o => Q o h
@[simp] theorem nxt_nx (g : Ev → M Fl) (μ : Ev) : nxt g Q (.nx μ) h = W (g μ) h Q := rfl
@[simp] theorem nxt_rt (g : Ev → M Fl) (d : D) : nxt g Q (.rt d) h = Q (.rt d) h := rfl
@[simp] theorem nxt_bk (g : Ev → M Fl) (μ : Ev) : nxt g Q (.bk μ) h = Q (.bk μ) h := rfl
@[simp] theorem nxt_ct (g : Ev → M Fl) (μ : Ev) : nxt g Q (.ct μ) h = Q (.ct μ) h := rfl
@[simp] theorem w_seq {f g : Ev → M Fl} {μ : Ev} : W (sSeq f g μ) h Q ↔ W (f μ) h (nxt g Q) := by
  unfold sSeq
  rw [w_bnd]
  constructor
  · intro w
    refine w.mono fun o h' q => ?_
    cases o with
    | nx μ' => exact q
    | rt d => show Q (.rt d) h'; exact w_ret.mp q
    | bk μ' => show Q (.bk μ') h'; exact w_ret.mp q
    | ct μ' => show Q (.ct μ') h'; exact w_ret.mp q
  · intro w
    refine w.mono fun o h' q => ?_
    cases o with
    | nx μ' => exact q
    | rt d => exact w_ret.mpr q
    | bk μ' => exact w_ret.mpr q
    | ct μ' => exact w_ret.mpr q
@[simp] theorem w_seti {i : Nat} {f : Ev → M D} {μ : Ev} : W (sSet i f μ) h Q ↔ W (f μ) h fun d h' => Q (.nx (μ.set i (some d))) h' := by
  unfold sSet; simp only [w_bnd, w_ret]
@[simp] theorem w_sret {f : Ev → M D} {μ : Ev} : W (sRet f μ) h Q ↔ W (f μ) h fun d h' => Q (.rt d) h' := by
  unfold sRet; simp only [w_bnd, w_ret]
@[simp] theorem w_sdrop {f : Ev → M D} {μ : Ev} : W (sDrop f μ) h Q ↔ W (f μ) h fun d h' => Q (.nx μ) h' := by
  unfold sDrop; simp only [w_bnd, w_ret]
@[simp] theorem w_snil {μ : Ev} : W (sNil μ) h Q ↔ Q (.nx μ) h := w_ret
@[simp] theorem w_sif {c : Ev → M Bool} {f g : Ev → M Fl} {μ : Ev} : W (sIf c f g μ) h Q ↔ W (c μ) h fun b h' => if b = true then W (f μ) h' Q else W (g μ) h' Q := by
  unfold sIf; simp only [w_bnd, w_ite]
@[simp] theorem w_ssub {fe fo fi : Ev → M D} {μ : Ev} : W (sSub fe fo fi μ) h Q ↔ W (fe μ) h fun d h1 => W (fo μ) h1 fun x h2 => W (fi μ) h2 fun i h3 => W (setD x i d) h3 fun _ h4 => Q (.nx μ) h4 := by
  unfold sSub; simp only [w_bnd, w_ret]
@[simp] theorem w_sasg {g : D → Ev → Hm → Option Ev} {f : Ev → M D} {μ : Ev} : W (sAsg g f μ) h Q ↔ W (f μ) h fun d h' => ∃ μ', g d μ h' = some μ' ∧ Q (.nx μ') h' := by
  unfold sAsg
  rw [w_bnd]
  have : ∀ d h', W (fun h => match g d μ h with
      | some μ' => R.ok (Fl.nx μ') h
      | none => R.bad) h' Q ↔ ∃ μ', g d μ h' = some μ' ∧ Q (.nx μ') h' := fun d h' => by
    rw [w_def]
    cases g d μ h' with
    | none => simp
    | some μ' => simp
  exact ⟨fun w => w.mono fun d h' q => (this d h').mp q, fun w => w.mono fun d h' q => (this d h').mpr q⟩
theorem w_for {fi : Ev → M (List D)} {g : D → Ev → Hm → Option Ev} {body : Ev → M Fl} {μ : Ev} : W (sFor fi g body μ) h Q ↔ W (fi μ) h fun ds h' => W (forL g body ds μ) h' Q := by
  unfold sFor; rw [w_bnd]
/-- a loop by its word: Inv holds of the items that are left, the slots, the mini heap -/
theorem w_forL {g : D → Ev → Hm → Option Ev} {body : Ev → M Fl} (Inv : List D → Ev → Hm → Prop) (h0 : ∀ μ h, Inv [] μ h → Q (.nx μ) h)
    (hs : ∀ d ds μ h, Inv (d :: ds) μ h → ∃ μ', g d μ h = some μ' ∧ W (body μ') h fun o h' => match o with
      | .nx μ2 => Inv ds μ2 h'
      | .ct μ2 => Inv ds μ2 h'
      | .bk μ2 => Q (.nx μ2) h'
      | .rt v => Q (.rt v) h') : ∀ ds μ h, Inv ds μ h → W (forL g body ds μ) h Q
  | [], μ, h, i => w_ret.mpr (h0 μ h i)
  | d :: ds, μ, h, i => by
    obtain ⟨μ', e, w⟩ := hs d ds μ h i
    rw [w_def]
    unfold forL
    rw [e]
    show W (bnd (body μ') _) h Q
    rw [w_bnd]
    refine w.mono fun o h' q => ?_
    cases o with
    | nx μ2 => exact w_forL Inv h0 hs ds μ2 h' q
    | ct μ2 => exact w_forL Inv h0 hs ds μ2 h' q
    | bk μ2 => exact w_ret.mpr q
    | rt v => exact w_ret.mpr q
/-- a def -/
theorem w_fn {lv : Nat → D → Hm → R D} {N : Nat} {body : Ev → M Fl} {ds : List D} {Q : D → Hm → Prop} : W (fnM lv N body ds) h Q ↔ W (body (ds.map some ++ List.replicate (N - ds.length) none)) h fun o h' => match o with
    | .rt d => Wr (lv h.length d h') Q
    | .nx _ => Wr (lv h.length (.p .none) h') Q
    | _ => False := by
  rw [w_def]
  unfold fnM
  rw [w_def]
  cases body (ds.map some ++ List.replicate (N - ds.length) none) h with
  | ok o h' => cases o <;> simp
  | exc e h' => simp
  | bad => simp
end
/-- left with as many cells as at the entry -/
theorem leave_same {n : Nat} {d : D} {h : Hm} {Q : D → Hm → Prop} (e : h.length = n) : Wr (leave n d h) Q ↔ Q d h := by
  unfold leave; rw [if_pos e]; exact wr_ok
theorem leaveK_eq {n : Nat} {d : D} {h : Hm} {Q : D → Hm → Prop} : Wr (leaveK n d h) Q ↔ Q d h := wr_ok
/-! comprehensions -/
section
variable {h : Hm}
theorem w_cmpE {fin : List D → M D} {fi : Ev → M (List D)} {vs : List Nat} {g : D → Ev → Hm → Option Ev} {tt : Ev → M Bool} {te : Ev → M D} {μ : Ev} {Q : D → Hm → Prop} :
    W (cmpE fin fi vs g tt te μ) h Q ↔ W (fi μ) h fun ds h' => W (cmpL g tt te (wipeE μ vs) ds) h' fun ys h2 => W (fin ys) h2 Q := by
  unfold cmpE; simp only [w_bnd, w_nox]
/-- a comprehension by its word, the items made so far in it -/
theorem w_cmpL {g : D → Ev → Hm → Option Ev} {tt : Ev → M Bool} {te : Ev → M D} {μ : Ev} (Inv : List D → List D → Hm → Prop)
    (hs : ∀ d ds ys h, Inv (d :: ds) ys h → ∃ μ', g d μ h = some μ' ∧ W (tt μ') h fun b h1 => if b = true then W (te μ') h1 fun y h2 => Inv ds (ys ++ [y]) h2 else Inv ds ys h1) :
    ∀ ds ys h (Q : List D → Hm → Prop), Inv ds ys h → (∀ zs h', Inv [] (ys ++ zs) h' → Q zs h') → W (cmpL g tt te μ ds) h Q
  | [], ys, h, Q, i, q => w_ret.mpr (q [] h (by simpa using i))
  | d :: ds, ys, h, Q, i, q => by
    obtain ⟨μ', e, w⟩ := hs d ds ys h i
    rw [w_def]
    unfold cmpL
    rw [e]
    show W (bnd (tt μ') _) h Q
    rw [w_bnd]
    refine w.mono fun b h1 z => ?_
    cases b with
    | false =>
      simp only [Bool.false_eq_true, if_false] at z ⊢
      exact w_cmpL Inv hs ds ys h1 Q z q
    | true =>
      simp only [if_true] at z ⊢
      rw [w_bnd]
      refine z.mono fun y h2 i2 => ?_
      rw [w_bnd]
      refine w_cmpL Inv hs ds (ys ++ [y]) h2 _ i2 fun zs h3 i3 => ?_
      rw [w_ret]
      exact q (y :: zs) h3 (by simpa using i3)
/-- a comprehension that changes nothing: told by a test and a function of the items -/
theorem cmpL_pure {g : D → Ev → Hm → Option Ev} {tt : Ev → M Bool} {te : Ev → M D} {μ : Ev} {h : Hm} (p : D → Bool) (f : D → D) : ∀ (ds : List D),
    (∀ d ∈ ds, ∃ μ', g d μ h = some μ' ∧ tt μ' h = .ok (p d) h ∧ (p d = true → te μ' h = .ok (f d) h)) → cmpL g tt te μ ds h = .ok ((ds.filter p).map f) h
  | [], _ => rfl
  | d :: ds, H => by
    obtain ⟨μ', e, e1, e2⟩ := H d (List.mem_cons_self ..)
    have ih := cmpL_pure p f ds fun d hd => H d (List.mem_cons_of_mem _ hd)
    unfold cmpL
    rw [e]
    show bnd (tt μ') _ h = _
    unfold bnd
    rw [e1]
    cases hp : p d with
    | false =>
      simp only [Bool.false_eq_true, if_false, ih, List.filter_cons, hp]
    | true =>
      simp only [if_true, e2 hp, ih, List.filter_cons, hp, List.map_cons]
      rfl
end
section
variable {h : Hm} {μ : Ev}
@[simp] theorem w_bin {g : D → D → M D} {fa fb : Ev → M D} {Q : D → Hm → Prop} : W (bin g fa fb μ) h Q ↔ W (fa μ) h fun x h1 => W (fb μ) h1 fun y h2 => W (g x y) h2 Q := by unfold bin; simp only [w_bnd]
@[simp] theorem w_un {g : D → M D} {fa : Ev → M D} {Q : D → Hm → Prop} : W (un g fa μ) h Q ↔ W (fa μ) h fun x h1 => W (g x) h1 Q := by unfold un; simp only [w_bnd]
@[simp] theorem w_aNil {Q : List D → Hm → Prop} : W (aNil μ) h Q ↔ Q [] h := w_ret
@[simp] theorem w_aCons {fa : Ev → M D} {fr : Ev → M (List D)} {Q : List D → Hm → Prop} : W (aCons fa fr μ) h Q ↔ W (fa μ) h fun x h1 => W (fr μ) h1 fun xs h2 => Q (x :: xs) h2 := by unfold aCons; simp only [w_bnd, w_ret]
@[simp] theorem w_ifE {c : Ev → M Bool} {fa fb : Ev → M D} {Q : D → Hm → Prop} : W (ifE c fa fb μ) h Q ↔ W (c μ) h fun b h1 => if b = true then W (fa μ) h1 Q else W (fb μ) h1 Q := by unfold ifE; simp only [w_bnd, w_ite]
@[simp] theorem w_tst {f : Ev → M D} {Q : Bool → Hm → Prop} : W (tst f μ) h Q ↔ W (f μ) h fun x h1 => W (truD x) h1 Q := by unfold tst; simp only [w_bnd]
/-- the value is a bool -/
def isB (Q : Bool → Hm → Prop) : D → Hm → Prop := fun d h => match d with
  | .p (.bool b) => Q b h
  | _ => False
@[simp] theorem isB_b {Q : Bool → Hm → Prop} {b : Bool} : isB Q (.p (.bool b)) h = Q b h := rfl
@[simp] theorem w_tstB {f : Ev → M D} {Q : Bool → Hm → Prop} : W (tstB f μ) h Q ↔ W (f μ) h (isB Q) := by
  unfold tstB
  rw [w_bnd]
  have : ∀ d h', W (match d with
      | .p (.bool b) => ret b
      | _ => bad : M Bool) h' Q ↔ isB Q d h' := fun d h' => by
    cases d with
    | p x => cases x <;> simp [isB]
    | _ => simp [isB]
  exact ⟨fun w => w.mono fun d h' q => (this d h').mp q, fun w => w.mono fun d h' q => (this d h').mpr q⟩
@[simp] theorem w_notT {c : Ev → M Bool} {Q : Bool → Hm → Prop} : W (notT c μ) h Q ↔ W (c μ) h fun b h1 => Q (!b) h1 := by unfold notT; simp only [w_bnd, w_ret]
@[simp] theorem w_andT {c d : Ev → M Bool} {Q : Bool → Hm → Prop} : W (andT c d μ) h Q ↔ W (c μ) h fun b h1 => if b = true then W (d μ) h1 Q else Q false h1 := by unfold andT; simp only [w_bnd, w_ret, w_ite]
@[simp] theorem w_orT {c d : Ev → M Bool} {Q : Bool → Hm → Prop} : W (orT c d μ) h Q ↔ W (c μ) h fun b h1 => if b = true then Q true h1 else W (d μ) h1 Q := by unfold orT; simp only [w_bnd, w_ret, w_ite]
@[simp] theorem w_notE {f : Ev → M D} {Q : D → Hm → Prop} : W (notE f μ) h Q ↔ W (f μ) h fun x h1 => W (truD x) h1 fun b h2 => Q (.p (.bool (!b))) h2 := by unfold notE; simp only [w_bnd, w_ret]
@[simp] theorem w_andE {f g : Ev → M D} {Q : D → Hm → Prop} : W (andE f g μ) h Q ↔ W (f μ) h fun x h1 => W (truD x) h1 fun b h2 => if b = true then W (g μ) h2 Q else Q x h2 := by unfold andE; simp only [w_bnd, w_ret, w_ite]
@[simp] theorem w_orE {f g : Ev → M D} {Q : D → Hm → Prop} : W (orE f g μ) h Q ↔ W (f μ) h fun x h1 => W (truD x) h1 fun b h2 => if b = true then Q x h2 else W (g μ) h2 Q := by unfold orE; simp only [w_bnd, w_ret, w_ite]
@[simp] theorem w_chain {g g' : D → D → M D} {fa fb fc : Ev → M D} {Q : D → Hm → Prop} : W (chain g g' fa fb fc μ) h Q ↔ W (fa μ) h fun x h1 => W (fb μ) h1 fun y h2 => W (g x y) h2 (isB fun k h3 => if k = true then W (fc μ) h3 fun w h4 => W (g' y w) h4 Q else Q (.p (.bool false)) h3) := by
  unfold chain
  simp only [w_bnd]
  have : ∀ y d h', W (match d with
      | .p (.bool k) => if k = true then bnd (fc μ) fun w => g' y w else ret (.p (.bool false))
      | _ => bad : M D) h' Q ↔ isB (fun k h3 => if k = true then W (fc μ) h3 fun w h4 => W (g' y w) h4 Q else Q (.p (.bool false)) h3) d h' := fun y d h' => by
    cases d with
    | p x => cases x <;> simp [isB]
    | _ => simp [isB]
  exact ⟨fun w => w.mono fun x h1 w => w.mono fun y h2 w => w.mono fun d h' q => (this y d h').mp q, fun w => w.mono fun x h1 w => w.mono fun y h2 w => w.mono fun d h' q => (this y d h').mpr q⟩
@[simp] theorem w_app {g : List D → M D} {fa : Ev → M (List D)} {Q : D → Hm → Prop} : W (app g fa μ) h Q ↔ W (fa μ) h fun xs h1 => W (g xs) h1 Q := by unfold app; simp only [w_bnd]
@[simp] theorem w_one {g : PyData → M D} {x : PyData} {Q : D → Hm → Prop} : W (one g [.p x]) h Q ↔ W (g x) h Q := Iff.rfl
@[simp] theorem w_appN {n : Nat} {F : List D → M D} {fa : Ev → M (List D)} {Q : D → Hm → Prop} : W (appN n (nox ∘ F) fa μ) h Q ↔ W (fa μ) h fun xs h1 => xs.length = n ∧ W (F xs) h1 Q := by unfold appN; simp only [w_bnd, w_chk, w_noxc]
@[simp] theorem w_tupE {f : Ev → M (List D)} {Q : D → Hm → Prop} : W (tupE f μ) h Q ↔ W (f μ) h fun xs h1 => W (mkTup xs) h1 Q := by unfold tupE; simp only [w_bnd]
@[simp] theorem w_lstE {f : Ev → M (List D)} {Q : D → Hm → Prop} : W (lstE f μ) h Q ↔ W (f μ) h fun xs h1 => W (mkLst xs) h1 Q := by unfold lstE; simp only [w_bnd]
@[simp] theorem w_celE {f : Ev → M (List D)} {Q : D → Hm → Prop} : W (celE f μ) h Q ↔ W (f μ) h fun xs h1 => W (newL xs) h1 Q := by unfold celE; simp only [w_bnd]
@[simp] theorem w_newL {xs : List D} {Q : D → Hm → Prop} : W (newL xs) h Q ↔ xs.length ≤ sizeLine ∧ Q (.cell h.length) (h ++ [.lst xs]) := by unfold newL; rw [w_chk, w_def]; simp
@[simp] theorem plain_nil : plain [] = some [] := rfl
@[simp] theorem plain_cons {x : PyData} {ds : List D} : plain (.p x :: ds) = (plain ds).map (x :: ·) := by
  rw [plain]
theorem plain_map : ∀ (xs : List PyData), plain (xs.map .p) = some xs
  | [] => rfl
  | x :: xs => by rw [List.map_cons, plain_cons, plain_map xs]; rfl
theorem w_mkTup {ds : List D} {xs : List PyData} {Q : D → Hm → Prop} (e : plain ds = some xs) : W (mkTup ds) h Q ↔ ds.length ≤ sizeLine ∧ Q (.p (.tuple xs)) h := by unfold mkTup; rw [w_chk, e]; simp
theorem w_mkLst {ds : List D} {xs : List PyData} {Q : D → Hm → Prop} (e : plain ds = some xs) : W (mkLst ds) h Q ↔ ds.length ≤ sizeLine ∧ Q (.p (.list xs)) h := by unfold mkLst; rw [w_chk, e]; simp
@[simp] theorem w_meth {T : String} {g : D → List D → M D} {fo : Ev → M D} {fa : Ev → M (List D)} {Q : D → Hm → Prop} : W (meth T g fo fa μ) h Q ↔ W (fo μ) h fun x h1 => isTyD T h1 x = true ∧ W (fa μ) h1 fun xs h2 => W (g x xs) h2 Q := by unfold meth; simp only [w_bnd, w_tyOk]
@[simp] theorem w_slcE {fa : Ev → M D} {fl fh : Ev → M (Option Int)} {Q : D → Hm → Prop} : W (slcE fa fl fh μ) h Q ↔ W (fa μ) h fun x h1 => W (fl μ) h1 fun lo h2 => W (fh μ) h2 fun hi h3 => W (rd1 (slcP lo hi) x) h3 Q := by unfold slcE; simp only [w_bnd]
/-- the value is an int -/
def isI (Q : Option Int → Hm → Prop) : D → Hm → Prop := fun d h => match d with
  | .p (.int i) => Q (some i) h
  | _ => False
@[simp] theorem isI_i {Q : Option Int → Hm → Prop} {i : Int} : isI Q (.p (.int i)) h = Q (some i) h := rfl
@[simp] theorem w_partE {f : Ev → M D} {Q : Option Int → Hm → Prop} : W (partE f μ) h Q ↔ W (f μ) h (isI Q) := by
  unfold partE
  rw [w_bnd]
  have : ∀ d h', W (match d with
      | .p (.int i) => ret (some i)
      | _ => bad : M (Option Int)) h' Q ↔ isI Q d h' := fun d h' => by
    cases d with
    | p x => cases x <;> simp [isI]
    | _ => simp [isI]
  exact ⟨fun w => w.mono fun d h' q => (this d h').mp q, fun w => w.mono fun d h' q => (this d h').mpr q⟩
@[simp] theorem w_partN {Q : Option Int → Hm → Prop} : W (partN μ) h Q ↔ Q none h := w_ret
@[simp] theorem w_yesT {Q : Bool → Hm → Prop} : W (yesT μ) h Q ↔ Q true h := w_ret
/-- the value is a list of data -/
def isL (Q : List D → Hm → Prop) : D → Hm → Prop := fun d h => match d with
  | .p (.list xs) => Q (xs.map .p) h
  | _ => False
@[simp] theorem isL_l {Q : List D → Hm → Prop} {xs : List PyData} : isL Q (.p (.list xs)) h = Q (xs.map .p) h := rfl
@[simp] theorem w_itL {f : Ev → M D} {Q : List D → Hm → Prop} : W (itL f μ) h Q ↔ W (f μ) h (isL Q) := by
  unfold itL
  rw [w_bnd]
  have : ∀ d h', W (match d with
      | .p (.list xs) => ret (xs.map .p)
      | _ => bad : M (List D)) h' Q ↔ isL Q d h' := fun d h' => by
    cases d with
    | p x => cases x <;> simp [isL]
    | _ => simp [isL]
  exact ⟨fun w => w.mono fun d h' q => (this d h').mp q, fun w => w.mono fun d h' q => (this d h').mpr q⟩
/-- the value is a text -/
def isS (Q : List D → Hm → Prop) : D → Hm → Prop := fun d h => match d with
  | .p (.str x) => Q (sgnL x) h
  | _ => False
@[simp] theorem isS_s {Q : List D → Hm → Prop} {x : Str} : isS Q (.p (.str x)) h = Q (sgnL x) h := rfl
@[simp] theorem w_itS {f : Ev → M D} {Q : List D → Hm → Prop} : W (itS f μ) h Q ↔ W (f μ) h (isS Q) := by
  unfold itS
  rw [w_bnd]
  have : ∀ d h', W (match d with
      | .p (.str x) => ret (sgnL x)
      | _ => bad : M (List D)) h' Q ↔ isS Q d h' := fun d h' => by
    cases d with
    | p x => cases x <;> simp [isS]
    | _ => simp [isS]
  exact ⟨fun w => w.mono fun d h' q => (this d h').mp q, fun w => w.mono fun d h' q => (this d h').mpr q⟩
/-- one int -/
def is1 (Q : Int → Hm → Prop) : List D → Hm → Prop := fun ds h => match ds with
  | [.p (.int j)] => Q j h
  | _ => False
@[simp] theorem is1_i {Q : Int → Hm → Prop} {i : Int} : is1 Q [.p (.int i)] h = Q i h := rfl
@[simp] theorem w_itR1 {f : Ev → M (List D)} {Q : List D → Hm → Prop} : W (itR1 f μ) h Q ↔ W (f μ) h (is1 fun j h' => (-(2 ^ 62) ≤ j ∧ j < 2 ^ 62) ∧ Q (rngL 0 j.toNat) h') := by
  unfold itR1
  rw [w_bnd]
  have : ∀ d h', W (match d with
      | [.p (.int j)] => chk (-(2 ^ 62) ≤ j ∧ j < 2 ^ 62) (ret (rngL 0 j.toNat))
      | _ => bad : M (List D)) h' Q ↔ is1 (fun j h' => (-(2 ^ 62) ≤ j ∧ j < 2 ^ 62) ∧ Q (rngL 0 j.toNat) h') d h' := fun d h' => by
    split
    · rw [w_chk, w_ret]; rfl
    · rename_i hn
      rw [w_bad]
      unfold is1
      split
      · exact absurd rfl (hn _)
      · rfl
  exact ⟨fun w => w.mono fun d h' q => (this d h').mp q, fun w => w.mono fun d h' q => (this d h').mpr q⟩
end
/-! operations, told apart by what they are given -/
section
variable {h : Hm} {Q : D → Hm → Prop}
@[simp] theorem addP_i (i j : Int) : addP (.int i) (.int j) = ret (.p (.int (i + j))) := rfl
@[simp] theorem addP_s (x y : Str) : addP (.str x) (.str y) = chk (x.length + y.length ≤ sizeLine) (ret (.p (.str (x ++ y)))) := rfl
@[simp] theorem addP_l (xs ys : List PyData) : addP (.list xs) (.list ys) = chk (xs.length + ys.length ≤ sizeLine) (ret (.p (.list (xs ++ ys)))) := rfl
@[simp] theorem addP_t (xs ys : List PyData) : addP (.tuple xs) (.tuple ys) = chk (xs.length + ys.length ≤ sizeLine) (ret (.p (.tuple (xs ++ ys)))) := rfl
@[simp] theorem subP_i (i j : Int) : subP (.int i) (.int j) = ret (.p (.int (i - j))) := rfl
@[simp] theorem mulP_i (i j : Int) : mulP (.int i) (.int j) = chk ((-(2 ^ 64) < i ∧ i < 2 ^ 64) ∨ (-(2 ^ 64) < j ∧ j < 2 ^ 64)) (ret (.p (.int (i * j)))) := rfl
@[simp] theorem mulP_s (x : Str) (n : Int) : mulP (.str x) (.int n) = chk (n < 1000000 ∧ -1000000 < n ∧ x.length < 1000 ∧ x.length * n.toNat ≤ sizeLine) (ret (.p (.str (strMul x n)))) := rfl
@[simp] theorem divP_i (i j : Int) : divP (.int i) (.int j) = chk (0 < j ∧ j < 1073741824) (ret (.p (.int (i / j)))) := rfl
@[simp] theorem modP_i (i j : Int) : modP (.int i) (.int j) = chk (0 < j) (ret (.p (.int (i % j)))) := rfl
@[simp] theorem powP_i (i j : Int) : powP (.int i) (.int j) = chk (0 ≤ j ∧ j ≤ 1000000 ∧ i.natAbs < 2 ^ 64) (ret (.p (.int (i ^ j.toNat)))) := rfl
@[simp] theorem negD_i (i : Int) : negD (.p (.int i)) = ret (.p (.int (-i))) := rfl
@[simp] theorem intP_i (f : Int → Int → Bool) (i j : Int) : intP f (.int i) (.int j) = ret (.p (.bool (f i j))) := rfl
@[simp] theorem absP_i (i : Int) : absP (.int i) = ret (.p (.int (if i < 0 then -i else i))) := rfl
@[simp] theorem intOf_i (i : Int) : intOf (.int i) = ret (.p (.int i)) := rfl
@[simp] theorem intOf_b (i : Bool) : intOf (.bool i) = ret (.p (.int (if i then 1 else 0))) := rfl
@[simp] theorem lenP_s (z : Str) : lenP (.str z) = chk (z.length ≤ sizeLine) (ret (.p (.int z.length))) := rfl
@[simp] theorem lenP_l (xs : List PyData) : lenP (.list xs) = ret (.p (.int xs.length)) := rfl
@[simp] theorem lenP_t (xs : List PyData) : lenP (.tuple xs) = ret (.p (.int xs.length)) := rfl
@[simp] theorem truD_n : truD (.p .none) = ret false := rfl
@[simp] theorem truD_b (b : Bool) : truD (.p (.bool b)) = ret b := rfl
@[simp] theorem truD_i (i : Int) : truD (.p (.int i)) = ret (i != 0) := rfl
@[simp] theorem truD_s (x : Str) : truD (.p (.str x)) = chk (x.length ≤ sizeLine) (ret ((x.length : Int) != 0)) := rfl
@[simp] theorem truD_l (xs : List PyData) : truD (.p (.list xs)) = ret (!xs.isEmpty) := rfl
@[simp] theorem truD_t (xs : List PyData) : truD (.p (.tuple xs)) = ret (!xs.isEmpty) := rfl
@[simp] theorem slcP_l (lo hi : Option Int) (xs : List PyData) : slcP lo hi (.list xs) = ret (.p (.list (cutP xs lo hi))) := rfl
@[simp] theorem slcP_t (lo hi : Option Int) (xs : List PyData) : slcP lo hi (.tuple xs) = ret (.p (.tuple (cutP xs lo hi))) := rfl
@[simp] theorem slcP_s (lo hi : Option Int) (z : Str) : slcP lo hi (.str z) = chk (z.length ≤ sizeLine) (ret (.p (.str (cutStr z lo hi)))) := rfl
@[simp] theorem listOf_l (xs : List PyData) : listOf (.list xs) = ret (.p (.list xs)) := rfl
@[simp] theorem listOf_t (xs : List PyData) : listOf (.tuple xs) = ret (.p (.list xs)) := rfl
@[simp] theorem tupOf_l (xs : List PyData) : tupOf (.list xs) = ret (.p (.tuple xs)) := rfl
@[simp] theorem tupOf_t (xs : List PyData) : tupOf (.tuple xs) = ret (.p (.tuple xs)) := rfl
@[simp] theorem isND_n (neg : Bool) (x : D) : isND neg x (.p .none) = ret (.p (.bool (if neg then !isN x else isN x))) := rfl
/-- a subscript of a cell -/
@[simp] theorem w_ixc {n : Nat} {i : Int} : W (idxD (.cell n) (.p (.int i))) h Q ↔ ∃ xs x, h[n]? = some (.lst xs) ∧ L2.atI xs i = some x ∧ Q x h := by
  rw [w_def]
  show Wr (match h[n]? with
    | some (.lst xs) => (match L2.atI xs i with
      | some x => .ok x h
      | none => .bad)
    | _ => .bad) Q ↔ _
  cases e : h[n]? with
  | none => simp
  | some c =>
    cases c with
    | lst xs =>
      cases e2 : L2.atI xs i with
      | none => simp [e2]
      | some x => simp [e2]
    | dct kvs => simp
    | obj cls fs => simp
/-- .. of data -/
@[simp] theorem w_ixl {xs : List PyData} {i : Int} : W (idxD (.p (.list xs)) (.p (.int i))) h Q ↔ ∃ x, L2.atI xs i = some x ∧ Q (.p x) h := by
  show W (atP xs i) h Q ↔ _
  unfold atP
  cases e2 : L2.atI xs i with
  | none => simp
  | some x => simp
@[simp] theorem w_ixt {xs : List PyData} {i : Int} : W (idxD (.p (.tuple xs)) (.p (.int i))) h Q ↔ ∃ x, L2.atI xs i = some x ∧ Q (.p x) h := by
  show W (atP xs i) h Q ↔ _
  unfold atP
  cases e2 : L2.atI xs i with
  | none => simp
  | some x => simp
@[simp] theorem w_ixs {z : Str} {i : Int} : W (idxD (.p (.str z)) (.p (.int i))) h Q ↔ z.length ≤ sizeLine ∧ ∃ c, L2.atI z.cps.toList i = some c ∧ Q (.p (.str ⟨#[c]⟩)) h := by
  show W (chk (z.length ≤ sizeLine) (match L2.atI z.cps.toList i with
      | some c => ret (.p (.str ⟨#[c]⟩))
      | none => bad)) h Q ↔ _
  rw [w_chk]
  cases e2 : L2.atI z.cps.toList i with
  | none => simp
  | some x => simp
/-- writing into a cell's list -/
@[simp] theorem w_setc {n : Nat} {i : Int} {d : D} : W (setD (.cell n) (.p (.int i)) d) h Q ↔ ∃ xs j, h[n]? = some (.lst xs) ∧ L2.ixN xs.length i = some j ∧ Q (.p .none) (h.set n (.lst (xs.set j d))) := by
  rw [w_def]
  show Wr (match h[n]? with
    | some (.lst xs) => (match setK d i xs with
      | .ok (d, ys) _ => .ok d (h.set n (.lst ys))
      | _ => .bad)
    | _ => .bad) Q ↔ _
  cases e : h[n]? with
  | none => simp
  | some c =>
    cases c with
    | lst xs =>
      unfold setK
      cases e2 : L2.ixN xs.length i with
      | none => simp [e2]
      | some x => simp [e2]
    | dct kvs => simp
    | obj cls fs => simp
@[simp] theorem w_appc {n : Nat} {d : D} : W (appendD (.cell n) [d]) h Q ↔ ∃ xs, h[n]? = some (.lst xs) ∧ xs.length < sizeLine ∧ Q (.p .none) (h.set n (.lst (xs ++ [d]))) := by
  rw [w_def]
  show Wr (match h[n]? with
    | some (.lst xs) => (match appK d xs with
      | .ok (d, ys) _ => .ok d (h.set n (.lst ys))
      | _ => .bad)
    | _ => .bad) Q ↔ _
  cases e : h[n]? with
  | none => simp
  | some c =>
    cases c with
    | lst xs =>
      unfold appK
      by_cases z : xs.length < sizeLine
      · simp [z]
      · simp [z]
    | dct kvs => simp
    | obj cls fs => simp
@[simp] theorem w_eqP {neg : Bool} {x y : PyData} : W (eqP neg x y) h Q ↔ (twoS x y = true ∨ (PySem.SeqAt.shaped x = true ∧ PySem.SeqAt.shaped y = true)) ∧ Q (.p (.bool (if neg then !PyData.eqv x y else PyData.eqv x y))) h := by
  unfold eqP; rw [w_chk, w_ret]
theorem w_isi {x : D} {t n : String} (e : tyN h x = some t) (hn : n ∈ ["bool", "int", "str", "list", "tuple", "dict"]) : W (isiD [x, .ty n]) h Q ↔ Q (.p (.bool (isiT t n))) h := w_of (isiD_eq e hn)
/-- the class of data -/
def tyP : PyData → String
  | .none => "NoneType"
  | .bool _ => "bool"
  | .int _ => "int"
  | .str _ => "str"
  | .list _ => "list"
  | .tuple _ => "tuple"
  | .dict _ => "dict"
theorem tyN_p (x : PyData) : tyN h (.p x) = some (tyP x) := by cases x <;> rfl
@[simp] theorem w_isiS {x : PyData} : W (isiD [.p x, .ty "str"]) h Q ↔ Q (.p (.bool (isiT (tyP x) "str"))) h := w_isi (tyN_p x) (by decide)
@[simp] theorem w_isiI {x : PyData} : W (isiD [.p x, .ty "int"]) h Q ↔ Q (.p (.bool (isiT (tyP x) "int"))) h := w_isi (tyN_p x) (by decide)
@[simp] theorem w_isiB {x : PyData} : W (isiD [.p x, .ty "bool"]) h Q ↔ Q (.p (.bool (isiT (tyP x) "bool"))) h := w_isi (tyN_p x) (by decide)
@[simp] theorem w_isiT {x : PyData} : W (isiD [.p x, .ty "tuple"]) h Q ↔ Q (.p (.bool (isiT (tyP x) "tuple"))) h := w_isi (tyN_p x) (by decide)
@[simp] theorem w_isiL {x : PyData} : W (isiD [.p x, .ty "list"]) h Q ↔ Q (.p (.bool (isiT (tyP x) "list"))) h := w_isi (tyN_p x) (by decide)
@[simp] theorem w_isiD {x : PyData} : W (isiD [.p x, .ty "dict"]) h Q ↔ Q (.p (.bool (isiT (tyP x) "dict"))) h := w_isi (tyN_p x) (by decide)
/-- what a tuple's display makes -/
def tupD (ds : List D) : D := match plain ds with
  | some xs => .p (.tuple xs)
  | none => .mix ds
theorem tupD_p {ds : List D} {xs : List PyData} (e : plain ds = some xs) : tupD ds = .p (.tuple xs) := by unfold tupD; rw [e]
@[simp] theorem w_mkT {ds : List D} : W (mkTup ds) h Q ↔ ds.length ≤ sizeLine ∧ Q (tupD ds) h := by
  unfold mkTup tupD
  rw [w_chk]
  cases e : plain ds with
  | none => simp
  | some xs => simp
@[simp] theorem w_mkL {ds : List D} : W (mkLst ds) h Q ↔ ds.length ≤ sizeLine ∧ ∃ xs, plain ds = some xs ∧ Q (.p (.list xs)) h := by
  unfold mkLst
  rw [w_chk]
  cases e : plain ds with
  | none => simp
  | some xs => simp
@[simp] theorem leave_s {n : Nat} {d : D} {c : C} (e : (c :: h).length = n) : Wr (leave n d (c :: h)) Q ↔ Q d (c :: h) := leave_same e
@[simp] theorem atI_0 {α : Type} (a : α) (xs : List α) : L2.atI (a :: xs) 0 = some a := by
  have : (0 : Int) < ((a :: xs).length : Int) := by simp only [List.length_cons]; omega
  simp only [L2.atI, L2.ixN, if_pos this]; rfl
@[simp] theorem atI_1 {α : Type} (a b : α) (xs : List α) : L2.atI (a :: b :: xs) 1 = some b := by
  have : (1 : Int) < ((a :: b :: xs).length : Int) := by simp only [List.length_cons]; omega
  simp only [L2.atI, L2.ixN, if_pos this]; rfl
@[simp] theorem atI_2 {α : Type} (a b c : α) (xs : List α) : L2.atI (a :: b :: c :: xs) 2 = some c := by
  have : (2 : Int) < ((a :: b :: c :: xs).length : Int) := by simp only [List.length_cons]; omega
  simp only [L2.atI, L2.ixN, if_pos this]; rfl
@[simp] theorem atI_3 {α : Type} (a b c d : α) (xs : List α) : L2.atI (a :: b :: c :: d :: xs) 3 = some d := by
  have : (3 : Int) < ((a :: b :: c :: d :: xs).length : Int) := by simp only [List.length_cons]; omega
  simp only [L2.atI, L2.ixN, if_pos this]; rfl
theorem atI_mod {α : Type} (xs : List α) (i : Int) (hx : xs ≠ []) : ∃ x, x ∈ xs ∧ L2.atI xs (i % (xs.length : Int)) = some x := by
  have hl : 0 < xs.length := List.length_pos_iff.mpr hx
  have h1 : 0 ≤ i % (xs.length : Int) := Int.emod_nonneg _ (by omega)
  have h2 : i % (xs.length : Int) < xs.length := Int.emod_lt_of_pos _ (by omega)
  have h3 : (i % (xs.length : Int)).toNat < xs.length := by omega
  refine ⟨xs[(i % (xs.length : Int)).toNat], List.getElem_mem _, ?_⟩
  simp only [L2.atI, L2.ixN, if_pos h1, if_pos h2, Option.bind_some, List.getElem?_eq_getElem h3]
theorem atI_lt {α : Type} (xs : List α) (i : Int) (h1 : 0 ≤ i) (h2 : i < xs.length) : ∃ x, x ∈ xs ∧ L2.atI xs i = some x := by
  have h3 : i.toNat < xs.length := by omega
  refine ⟨xs[i.toNat], List.getElem_mem _, ?_⟩
  simp only [L2.atI, L2.ixN, if_pos h1, if_pos h2, Option.bind_some, List.getElem?_eq_getElem h3]
end
section
variable {h : Hm}
/-- what one round of a for leaves to do -/
def rnd (Q : Fl → Hm → Prop) (K : Ev → Hm → Prop) : Fl → Hm → Prop := fun o h' => match o with
  | .nx μ2 => K μ2 h'
  | .ct μ2 => K μ2 h'
  | .bk μ2 => Q (.nx μ2) h'
  | .rt v => Q (.rt v) h'
@[simp] theorem rnd_nx {Q : Fl → Hm → Prop} {K : Ev → Hm → Prop} {μ : Ev} : rnd Q K (.nx μ) h = K μ h := rfl
@[simp] theorem rnd_ct {Q : Fl → Hm → Prop} {K : Ev → Hm → Prop} {μ : Ev} : rnd Q K (.ct μ) h = K μ h := rfl
@[simp] theorem rnd_bk {Q : Fl → Hm → Prop} {K : Ev → Hm → Prop} {μ : Ev} : rnd Q K (.bk μ) h = Q (.nx μ) h := rfl
@[simp] theorem rnd_rt {Q : Fl → Hm → Prop} {K : Ev → Hm → Prop} {v : D} : rnd Q K (.rt v) h = Q (.rt v) h := rfl
theorem w_for_nil {g : D → Ev → Hm → Option Ev} {body : Ev → M Fl} {μ : Ev} {Q : Fl → Hm → Prop} : W (forL g body [] μ) h Q ↔ Q (.nx μ) h := w_ret
theorem forL_cons {g : D → Ev → Hm → Option Ev} {body : Ev → M Fl} {μ : Ev} {d : D} {ds : List D} : forL g body (d :: ds) μ h = match g d μ h with
    | none => .bad
    | some μ' => bnd (body μ') (fun o => match o with
      | .nx μ2 => forL g body ds μ2
      | .ct μ2 => forL g body ds μ2
      | .bk μ2 => ret (.nx μ2)
      | .rt v => ret (.rt v)) h := by
  first | (rw [forL]; done) | (rw [forL]; rfl)
theorem w_for_cons {g : D → Ev → Hm → Option Ev} {body : Ev → M Fl} {μ : Ev} {d : D} {ds : List D} {Q : Fl → Hm → Prop} : W (forL g body (d :: ds) μ) h Q ↔ ∃ μ', g d μ h = some μ' ∧ W (body μ') h (rnd Q fun μ2 h' => W (forL g body ds μ2) h' Q) := by
  rw [w_def, forL_cons]
  cases e : g d μ h with
  | none => simp
  | some μ' =>
    simp only [Option.some.injEq, exists_eq_left']
    show W (bnd (body μ') _) h Q ↔ _
    rw [w_bnd]
    constructor
    · intro w
      refine w.mono fun o h' q => ?_
      cases o with
      | nx μ2 => exact q
      | ct μ2 => exact q
      | bk μ2 => exact (w_ret (Q := Q)).mp q
      | rt v => exact (w_ret (Q := Q)).mp q
    · intro w
      refine w.mono fun o h' q => ?_
      cases o with
      | nx μ2 => exact q
      | ct μ2 => exact q
      | bk μ2 => exact (w_ret (Q := Q)).mpr q
      | rt v => exact (w_ret (Q := Q)).mpr q
/-- a for by its word, in the same terms -/
theorem w_forI {g : D → Ev → Hm → Option Ev} {body : Ev → M Fl} {Q : Fl → Hm → Prop} (Inv : List D → Ev → Hm → Prop) (h0 : ∀ μ h, Inv [] μ h → Q (.nx μ) h)
    (hs : ∀ d ds μ h, Inv (d :: ds) μ h → ∃ μ', g d μ h = some μ' ∧ W (body μ') h (rnd Q (Inv ds))) : ∀ ds μ h, Inv ds μ h → W (forL g body ds μ) h Q
  | [], μ, h, i => w_for_nil.mpr (h0 μ h i)
  | d :: ds, μ, h, i => by
    obtain ⟨μ', e, w⟩ := hs d ds μ h i
    refine w_for_cons.mpr ⟨μ', e, w.mono fun o h' q => ?_⟩
    cases o with
    | nx μ2 => exact w_forI Inv h0 hs ds μ2 h' q
    | ct μ2 => exact w_forI Inv h0 hs ds μ2 h' q
    | bk μ2 => exact q
    | rt v => exact q
@[simp] theorem leave_self {d : D} {Q : D → Hm → Prop} : Wr (leave h.length d h) Q ↔ Q d h := leave_same rfl
/-- what a body leaves to its def -/
def fin (lv : Nat → D → Hm → R D) (n : Nat) (Q : D → Hm → Prop) : Fl → Hm → Prop := fun o h' => match o with
  | .rt d => Wr (lv n d h') Q
  | .nx _ => Wr (lv n (.p .none) h') Q
  | _ => False
@[simp] theorem fin_rt {lv : Nat → D → Hm → R D} {n : Nat} {Q : D → Hm → Prop} {d : D} : fin lv n Q (.rt d) h = Wr (lv n d h) Q := rfl
@[simp] theorem fin_nx {lv : Nat → D → Hm → R D} {n : Nat} {Q : D → Hm → Prop} {μ : Ev} : fin lv n Q (.nx μ) h = Wr (lv n (.p .none) h) Q := rfl
theorem w_fun {lv : Nat → D → Hm → R D} {N : Nat} {body : Ev → M Fl} {ds : List D} {Q : D → Hm → Prop} : W (fnM lv N body ds) h Q ↔ W (body (ds.map some ++ List.replicate (N - ds.length) none)) h (fin lv h.length Q) := w_fn
/-- a comprehension over the images of a list, that changes nothing -/
theorem cmpL_map {α : Type} {g : D → Ev → Hm → Option Ev} {tt : Ev → M Bool} {te : Ev → M D} {μ : Ev} (k : α → D) (p : α → Bool) (f : α → D) : ∀ (xs : List α),
    (∀ x ∈ xs, ∃ μ', g (k x) μ h = some μ' ∧ tt μ' h = .ok (p x) h ∧ (p x = true → te μ' h = .ok (f x) h)) → cmpL g tt te μ (xs.map k) h = .ok ((xs.filter p).map f) h
  | [], _ => rfl
  | x :: xs, H => by
    obtain ⟨μ', e, e1, e2⟩ := H x (List.mem_cons_self ..)
    have ih := cmpL_map k p f xs fun d hd => H d (List.mem_cons_of_mem _ hd)
    rw [List.map_cons]
    unfold cmpL
    rw [e]
    show bnd (tt μ') _ h = _
    unfold bnd
    rw [e1]
    cases hp : p x with
    | false =>
      simp only [Bool.false_eq_true, if_false, ih, List.filter_cons, hp]
    | true =>
      simp only [if_true, e2 hp, ih, List.filter_cons, hp, List.map_cons]
      rfl
/-- a run told by what holds behind it -/
theorem run_of {α : Type} {f : M α} {a : α} {h' : Hm} (w : W f h fun b h2 => b = a ∧ h2 = h') : f h = .ok a h' := by
  obtain ⟨b, h2, e, rfl, rfl⟩ := w; exact e
theorem plain_mapf {α : Type} (k : α → PyData) : ∀ xs : List α, plain (xs.map fun x => .p (k x)) = some (xs.map k)
  | [] => rfl
  | x :: xs => by rw [List.map_cons, plain_cons, plain_mapf k xs]; rfl
theorem bools_map {α : Type} (k : α → Bool) : ∀ xs : List α, bools (xs.map fun x => .bool (k x)) = some (xs.map k)
  | [] => rfl
  | x :: xs => by rw [List.map_cons, bools, bools_map k xs]; rfl
@[simp] theorem inP_s (neg : Bool) (x y : Str) : inP neg (.str x) (.str y) = ret (.p (.bool (if neg then !inTxt x y else inTxt x y))) := rfl
@[simp] theorem w_reprP {x : PyData} {Q : D → Hm → Prop} : W (reprP x) h Q ↔ okShow x ∧ Q (.p (.str x.shown)) h := by unfold reprP; rw [w_chk, w_ret]
end
end MP
namespace G
open PySem PySem.Spec PyProof.Rows L2 MP
def topS (i : Nat) : Stmt := PySem.Challenge.pw_sheethouse_k01_times_hands_and_stamps.main.body.getD i (.Pass ⟨0, 0, 0, 0⟩)
abbrev s_is_whole : Stmt := topS 5
abbrev NN_is_whole : List Str := ["thing", "least", "most"]
theorem sc_is_whole : FnScope ["thing", "least", "most"] ["thing", "least", "most"] (defScope s_is_whole) := ⟨rfl, rfl, rfl, by decide +kernel, rfl, by decide +kernel, by decide +kernel⟩
abbrev s_is_word : Stmt := topS 6
abbrev NN_is_word : List Str := ["thing", "sign"]
theorem sc_is_word : FnScope ["thing", "sign"] ["thing"] (defScope s_is_word) := ⟨rfl, rfl, rfl, by decide +kernel, rfl, by decide +kernel, by decide +kernel⟩
abbrev s_is_hand : Stmt := topS 7
abbrev NN_is_hand : List Str := ["thing"]
theorem sc_is_hand : FnScope ["thing"] ["thing"] (defScope s_is_hand) := ⟨rfl, rfl, rfl, by decide +kernel, rfl, by decide +kernel, by decide +kernel⟩
abbrev s_is_time : Stmt := topS 8
abbrev NN_is_time : List Str := ["thing"]
theorem sc_is_time : FnScope ["thing"] ["thing"] (defScope s_is_time) := ⟨rfl, rfl, rfl, by decide +kernel, rfl, by decide +kernel, by decide +kernel⟩
abbrev s_is_stamp : Stmt := topS 9
abbrev NN_is_stamp : List Str := ["thing", "time", "hand", "number"]
theorem sc_is_stamp : FnScope ["thing", "time", "hand", "number"] ["thing"] (defScope s_is_stamp) := ⟨rfl, rfl, rfl, by decide +kernel, rfl, by decide +kernel, by decide +kernel⟩
abbrev s_law_pen : Stmt := topS 11
abbrev NN_law_pen : List Str := ["_law_script", "_law_cell"]
theorem sc_law_pen : FnScope ["_law_script", "_law_cell"] ["_law_script"] (defScope s_law_pen) := ⟨rfl, rfl, rfl, by decide +kernel, rfl, by decide +kernel, by decide +kernel⟩
abbrev s_law_take : Stmt := topS 12
abbrev NN_law_take : List Str := ["_law_pen_here", "_law_upto", "_law_at", "_law_cell", "_law_number", "_law_found", "_law_great"]
theorem sc_law_take : FnScope ["_law_pen_here", "_law_upto", "_law_at", "_law_cell", "_law_number", "_law_found", "_law_great"] ["_law_pen_here", "_law_upto"] (defScope s_law_take) := ⟨rfl, rfl, rfl, by decide +kernel, rfl, by decide +kernel, by decide +kernel⟩
abbrev s_law_words : Stmt := topS 13
abbrev NN_law_words : List Str := ["_law_pen_here", "_law_many", "_law_abc", "_law_base", "_law_spot", "_law_first", "_law_leap", "_law_tail", "_law_found", "_law_k", "_law_sign"]
theorem sc_law_words : FnScope ["_law_pen_here", "_law_many", "_law_abc", "_law_base", "_law_spot", "_law_first", "_law_leap", "_law_tail", "_law_found", "_law_k", "_law_sign"] ["_law_pen_here", "_law_many"] (defScope s_law_words) := ⟨rfl, rfl, rfl, by decide +kernel, rfl, by decide +kernel, by decide +kernel⟩
abbrev s_law_is_word : Stmt := topS 14
abbrev NN_law_is_word : List Str := ["_law_thing", "_law_sign"]
theorem sc_law_is_word : FnScope ["_law_thing", "_law_sign"] ["_law_thing"] (defScope s_law_is_word) := ⟨rfl, rfl, rfl, by decide +kernel, rfl, by decide +kernel, by decide +kernel⟩
abbrev s_law_whole : Stmt := topS 15
abbrev NN_law_whole : List Str := ["_law_thing", "_law_most"]
theorem sc_law_whole : FnScope ["_law_thing", "_law_most"] ["_law_thing", "_law_most"] (defScope s_law_whole) := ⟨rfl, rfl, rfl, by decide +kernel, rfl, by decide +kernel, by decide +kernel⟩
abbrev s_law_is_stamp : Stmt := topS 16
abbrev NN_law_is_stamp : List Str := ["_law_thing"]
theorem sc_law_is_stamp : FnScope ["_law_thing"] ["_law_thing"] (defScope s_law_is_stamp) := ⟨rfl, rfl, rfl, by decide +kernel, rfl, by decide +kernel, by decide +kernel⟩
abbrev s_law_odd : Stmt := topS 17
abbrev NN_law_odd : List Str := ["_law_pen_here", "_law_far", "_law_some"]
theorem sc_law_odd : FnScope ["_law_pen_here", "_law_far", "_law_some"] ["_law_pen_here"] (defScope s_law_odd) := ⟨rfl, rfl, rfl, by decide +kernel, rfl, by decide +kernel, by decide +kernel⟩
abbrev s_law : Stmt := topS 18
abbrev NN_law : List Str := ["_law_script", "_law_pen_here", "_law_k", "_law_word", "_law_time", "_law_good", "_law_at", "_law_odd_here", "_law_bent", "_law_thing", "_law_kept", "_law_found", "_law_due"]
theorem sc_law : FnScope ["_law_script", "_law_pen_here", "_law_k", "_law_word", "_law_time", "_law_good", "_law_at", "_law_odd_here", "_law_bent", "_law_thing", "_law_kept", "_law_found", "_law_due"] ["_law_script"] (defScope s_law) := ⟨rfl, rfl, rfl, by decide +kernel, rfl, by decide +kernel, by decide +kernel⟩
def B_is_whole : Ev → M Fl :=
  sRet (andE (app (isiD) (aCons (var 0) (aCons ((fun _ => ret (.ty "int"))) (aNil)))) (andE (notE (app (isiD) (aCons (var 0) (aCons ((fun _ => ret (.ty "bool"))) (aNil))))) (chain (rd2 (intP fun i j => decide (i ≤ j))) (rd2 (intP fun i j => decide (i ≤ j))) (var 1) (var 0) (var 2))))
def F0_is_whole : List D → M D := fnM leave 3 B_is_whole
def B_is_word : Ev → M Fl :=
  sSeq (sIf (orT (notT (tst (app (isiD) (aCons (var 0) (aCons ((fun _ => ret (.ty "str"))) (aNil)))))) (notT (tstB (chain (rd2 (intP fun i j => decide (i ≤ j))) (rd2 (intP fun i j => decide (i ≤ j))) (cst (.int 1)) (app (one lenP) (aCons (var 0) (aNil))) (cst (.int 8)))))) (sRet (cst (.bool false))) (sNil)) (sRet (app (one allP) (aCons (cmpE mkLst (itS (var 0)) [1] (gNm 1) (yesT) (bin (rd2 (inP false)) (var 1) (cst (.str "abcdefghijklmnopqrstuvwxyz")))) (aNil))))
def F0_is_word : List D → M D := fnM leave 2 B_is_word
def B_law_pen : Ev → M Fl :=
  sRet (celE (aCons (cmpE mkLst (itL (slcE (var 0) (partN) (partE (cst (.int 63))))) [1] (gNm 1) (yesT) (var 1)) (aCons (cst (.int 0)) (aCons (cst (.int 0)) (aNil)))))
def F0_law_pen : List D → M D := fnM leaveK 2 B_law_pen
def B_law_take : Ev → M Fl :=
  sSeq (sIf (tstB (bin (rd2 (intP fun i j => decide (j < i))) (bin idxD (var 0) (cst (.int 2))) (cst (.int 0)))) (sSeq (sSet 5 (bin (rd2 modP) (bin idxD (var 0) (cst (.int 2))) (var 1))) (sSeq (sSub (bin (rd2 divP) (bin idxD (var 0) (cst (.int 2))) (var 1)) (var 0) (cst (.int 2))) (sRet (var 5)))) (sNil)) (sSeq (sSet 2 (bin idxD (var 0) (cst (.int 1)))) (sSeq (sSub (bin (rd2 addP) (var 2) (cst (.int 1))) (var 0) (cst (.int 1))) (sSeq (sSet 3 (bin (rd2 addP) (bin (rd2 mulP) (cst (.int 41)) (var 2)) (cst (.int 13)))) (sSeq (sIf (tstB (bin (rd2 (eqP true)) (bin idxD (var 0) (cst (.int 0))) (lstE (aNil)))) (sSet 3 (bin idxD (bin idxD (var 0) (cst (.int 0))) (bin (rd2 modP) (var 2) (app (one lenP) (aCons (bin idxD (var 0) (cst (.int 0))) (aNil)))))) (sNil)) (sSeq (sIf (andT (tstB (bin (rd2 (intP fun i j => decide (i < j))) (var 2) (app (one lenP) (aCons (bin idxD (var 0) (cst (.int 0))) (aNil))))) (tstB (bin (rd2 (intP fun i j => decide (j ≤ i))) (app (one absP) (aCons (var 3) (aNil))) (bin (rd2 powP) (cst (.int 10)) (cst (.int 18)))))) (sSeq (sSet 6 (bin (rd2 addP) (bin (rd2 mulP) (cst (.int 2)) (bin (rd2 subP) (app (one absP) (aCons (var 3) (aNil))) (bin (rd2 powP) (cst (.int 10)) (cst (.int 18))))) (app (one intOf) (aCons (bin (rd2 (intP fun i j => decide (i < j))) (var 3) (cst (.int 0))) (aNil))))) (sSeq (sSub (bin (rd2 divP) (var 6) (var 1)) (var 0) (cst (.int 2))) (sRet (bin (rd2 modP) (var 6) (var 1))))) (sNil)) (sSeq (sSet 4 (bin (rd2 modP) (bin (rd2 powP) (bin (rd2 addP) (bin (rd2 addP) (bin (rd2 addP) (bin (rd2 modP) (var 3) (cst (.int 2147483629))) (bin (rd2 mulP) (cst (.int 40709)) (var 2))) (bin (rd2 mulP) (bin (rd2 mulP) (cst (.int 7919)) (var 2)) (var 2))) (cst (.int 31))) (cst (.int 5))) (cst (.int 2147483647)))) (sSeq (sSet 4 (bin (rd2 modP) (bin (rd2 powP) (bin (rd2 addP) (bin (rd2 addP) (bin (rd2 mulP) (var 4) (cst (.int 48271))) (bin (rd2 mulP) (cst (.int 69621)) (var 2))) (cst (.int 11))) (cst (.int 3))) (cst (.int 2147483587)))) (sSeq (sIf (tstB (bin (rd2 (intP fun i j => decide (j < i))) (var 1) (bin (rd2 powP) (cst (.int 10)) (cst (.int 8))))) (sSet 4 (bin (rd2 powP) (bin (rd2 addP) (var 4) (cst (.int 17))) (cst (.int 7)))) (sNil)) (sRet (bin (rd2 modP) (bin (rd2 divP) (var 4) (cst (.int 7))) (var 1)))))))))))
def F0_law_take : List D → M D := fnM leave 7 B_law_take
def B_law_is_word : Ev → M Fl :=
  sSeq (sIf (orT (notT (tst (app (isiD) (aCons (var 0) (aCons ((fun _ => ret (.ty "str"))) (aNil)))))) (notT (tstB (chain (rd2 (intP fun i j => decide (i ≤ j))) (rd2 (intP fun i j => decide (i ≤ j))) (cst (.int 1)) (app (one lenP) (aCons (var 0) (aNil))) (cst (.int 8)))))) (sRet (cst (.bool false))) (sNil)) (sRet (bin (rd2 (eqP false)) (cmpE mkLst (itS (var 0)) [1] (gNm 1) (tstB (bin (rd2 (inP true)) (var 1) (cst (.str "abcdefghijklmnopqrstuvwxyz")))) (var 1)) (lstE (aNil))))
def F0_law_is_word : List D → M D := fnM leave 2 B_law_is_word
def B_law_whole : Ev → M Fl :=
  sRet (andE (app (isiD) (aCons (var 0) (aCons ((fun _ => ret (.ty "int"))) (aNil)))) (andE (notE (app (isiD) (aCons (var 0) (aCons ((fun _ => ret (.ty "bool"))) (aNil))))) (chain (rd2 (intP fun i j => decide (i ≤ j))) (rd2 (intP fun i j => decide (i ≤ j))) (cst (.int 0)) (var 0) (var 1))))
def F0_law_whole : List D → M D := fnM leave 2 B_law_whole
def B_is_hand : Ev → M Fl :=
  sRet (appN 1 (nox ∘ F0_is_word) (aCons (var 0) (aNil)))
def F0_is_hand : List D → M D := fnM leave 1 B_is_hand
def B_is_time : Ev → M Fl :=
  sRet (appN 3 (nox ∘ F0_is_whole) (aCons (var 0) (aCons (cst (.int 0)) (aCons (cst (.int 1000000)) (aNil)))))
def F0_is_time : List D → M D := fnM leave 1 B_is_time
def B_law_words : Ev → M Fl :=
  sSeq (sSet 2 (cst (.str "abcdefghijklmnopqrstuvwxyz"))) (sSeq (sSet 3 (meth "str" joinP (cst (.str "")) (aCons (cmpE mkLst (itR1 (aCons (appN 2 (nox ∘ F0_law_take) (aCons (var 0) (aCons (cst (.int 5)) (aNil)))) (aNil))) [9] (gNm 9) (yesT) (bin idxD (var 2) (appN 2 (nox ∘ F0_law_take) (aCons (var 0) (aCons (cst (.int 26)) (aNil)))))) (aNil)))) (sSeq (sSet 4 (appN 2 (nox ∘ F0_law_take) (aCons (var 0) (aCons (bin (rd2 addP) (app (one lenP) (aCons (var 3) (aNil))) (cst (.int 1))) (aNil))))) (sSeq (sSet 5 (appN 2 (nox ∘ F0_law_take) (aCons (var 0) (aCons (cst (.int 26)) (aNil))))) (sSeq (sSet 6 (bin idxD (lstE (aCons (cst (.int 1)) (aCons (cst (.int 3)) (aCons (cst (.int 5)) (aCons (cst (.int 7)) (aCons (cst (.int 9)) (aCons (cst (.int 11)) (aNil)))))))) (appN 2 (nox ∘ F0_law_take) (aCons (var 0) (aCons (cst (.int 6)) (aNil)))))) (sSeq (sSet 7 (appN 2 (nox ∘ F0_law_take) (aCons (var 0) (aCons (cst (.int 2)) (aNil))))) (sSeq (sSet 8 (celE (aNil))) (sSeq (sFor (itR1 (aCons (var 1) (aNil))) (gNm 9) (sSeq (sSet 10 (bin idxD (var 2) (bin (rd2 modP) (bin (rd2 addP) (var 5) (bin (rd2 mulP) (var 6) (var 9))) (cst (.int 26))))) (sDrop (meth "list" appendD (var 8) (aCons (bin (rd2 addP) (bin (rd2 addP) (bin (rd2 addP) (slcE (var 3) (partN) (partE (var 4))) (var 10)) (slcE (var 3) (partE (var 4)) (partN))) (bin (rd2 mulP) (cst (.str "z")) (bin (rd2 mulP) (var 7) (bin (rd2 modP) (var 9) (cst (.int 3)))))) (aNil)))))) (sRet (var 8)))))))))
def F0_law_words : List D → M D := fnM leave 11 B_law_words
def B_law_is_stamp : Ev → M Fl :=
  sSeq (sIf (orT (notT (tst (app (isiD) (aCons (var 0) (aCons ((fun _ => ret (.ty "tuple"))) (aNil)))))) (orT (tstB (bin (rd2 (eqP true)) (app (one lenP) (aCons (var 0) (aNil))) (cst (.int 3)))) (notT (tst (appN 2 (nox ∘ F0_law_whole) (aCons (bin idxD (var 0) (cst (.int 0))) (aCons (bin (rd2 powP) (cst (.int 10)) (cst (.int 6))) (aNil)))))))) (sRet (cst (.bool false))) (sNil)) (sRet (andE (appN 1 (nox ∘ F0_law_is_word) (aCons (bin idxD (var 0) (cst (.int 1))) (aNil))) (appN 2 (nox ∘ F0_law_whole) (aCons (bin idxD (var 0) (cst (.int 2))) (aCons (cst (.int 199)) (aNil))))))
def F0_law_is_stamp : List D → M D := fnM leave 1 B_law_is_stamp
def B_law_odd : Ev → M Fl :=
  sSeq (sSet 1 (appN 2 (nox ∘ F0_law_take) (aCons (var 0) (aCons (bin (rd2 powP) (cst (.int 10)) (cst (.int 9))) (aNil))))) (sSeq (sSet 2 (lstE (aCons (cst (.int 0)) (aCons (cst (.int 199)) (aCons (cst (.int 200)) (aCons (bin (rd2 powP) (cst (.int 10)) (cst (.int 6))) (aCons (bin (rd2 addP) (bin (rd2 powP) (cst (.int 10)) (cst (.int 6))) (cst (.int 1))) (aCons (un negD (cst (.int 1))) (aCons (var 1) (aCons (cst (.bool true)) (aCons (cst (.bool false)) (aCons (cst .none) (aCons (cst (.str "")) (aCons (cst (.str "a")) (aCons (cst (.str "abcdefgh")) (aCons (cst (.str "abcdefghi")) (aCons (cst (.str "A")) (aCons (cst (.str "a1")) (aNil))))))))))))))))))) (sSeq (sSet 2 (bin (rd2 addP) (var 2) (lstE (aCons (cst (.str "a\n")) (aCons (lstE (aNil)) (aCons ((fun _ => emptyD)) (aCons (tupE (aNil)) (aCons (lstE (aCons (cst (.str "a")) (aNil))) (aCons (bin (rd2 powP) (cst (.int 10)) (cst (.int 59))) (aCons (cst (.str "0")) (aCons (tupE (aCons (cst (.int 0)) (aCons (cst (.str "a")) (aCons (cst (.int 0)) (aNil))))) (aCons (cst (.str "{")) (aNil))))))))))))) (sRet (bin idxD (var 2) (appN 2 (nox ∘ F0_law_take) (aCons (var 0) (aCons (cst (.int 25)) (aNil))))))))
def F0_law_odd : List D → M D := fnM leave 3 B_law_odd
def B_is_stamp : Ev → M Fl :=
  sSeq (sIf (orT (notT (tst (app (isiD) (aCons (var 0) (aCons ((fun _ => ret (.ty "tuple"))) (aNil)))))) (tstB (bin (rd2 (eqP true)) (app (one lenP) (aCons (var 0) (aNil))) (cst (.int 3))))) (sRet (cst (.bool false))) (sNil)) (sSeq (sAsg (gTp 3 (gCn (gNm 1) (gCn (gNm 2) (gCn (gNm 3) (gNl))))) (var 0)) (sRet (andE (appN 1 (nox ∘ F0_is_time) (aCons (var 1) (aNil))) (andE (appN 1 (nox ∘ F0_is_hand) (aCons (var 2) (aNil))) (appN 3 (nox ∘ F0_is_whole) (aCons (var 3) (aCons (cst (.int 0)) (aCons (bin (rd2 subP) (cst (.int 200)) (cst (.int 1))) (aNil)))))))))
def F0_is_stamp : List D → M D := fnM leave 4 B_is_stamp
def B_law : Ev → M Fl :=
  sSeq (sSet 1 (appN 1 (nox ∘ F0_law_pen) (aCons (var 0) (aNil)))) (sSeq (sFor (itR1 (aCons (cst (.int 12)) (aNil))) (gNm 2) (sSeq (sSet 3 (bin idxD (appN 2 (nox ∘ F0_law_words) (aCons (var 1) (aCons (cst (.int 2)) (aNil)))) (cst (.int 1)))) (sSeq (sSet 4 (bin idxD (lstE (aCons (cst (.int 0)) (aCons (bin (rd2 powP) (cst (.int 10)) (cst (.int 6))) (aCons (appN 2 (nox ∘ F0_law_take) (aCons (var 1) (aCons (bin (rd2 addP) (bin (rd2 powP) (cst (.int 10)) (cst (.int 6))) (cst (.int 1))) (aNil)))) (aNil))))) (appN 2 (nox ∘ F0_law_take) (aCons (var 1) (aCons (cst (.int 3)) (aNil)))))) (sSeq (sSet 5 (tupE (aCons (var 4) (aCons (var 3) (aCons (bin idxD (lstE (aCons (cst (.int 0)) (aCons (cst (.int 199)) (aCons (appN 2 (nox ∘ F0_law_take) (aCons (var 1) (aCons (cst (.int 200)) (aNil)))) (aNil))))) (appN 2 (nox ∘ F0_law_take) (aCons (var 1) (aCons (cst (.int 3)) (aNil))))) (aNil)))))) (sSeq (sSet 6 (appN 2 (nox ∘ F0_law_take) (aCons (var 1) (aCons (cst (.int 3)) (aNil))))) (sSeq (sSet 7 (appN 1 (nox ∘ F0_law_odd) (aCons (var 1) (aNil)))) (sSeq (sSet 8 (bin (rd2 addP) (bin (rd2 addP) (slcE (var 5) (partN) (partE (var 6))) (tupE (aCons (var 7) (aNil)))) (slcE (var 5) (partE (bin (rd2 addP) (var 6) (cst (.int 1)))) (partN)))) (sSeq (sFor (itL (lstE (aCons (var 5) (aCons (var 8) (aCons (app (one listOf) (aCons (var 5) (aNil))) (aCons (slcE (var 5) (partN) (partE (cst (.int 2)))) (aCons (bin (rd2 addP) (var 5) (tupE (aCons (cst (.int 0)) (aNil)))) (aCons (var 7) (aCons (tupE (aCons (var 5) (aNil))) (aCons (var 5) (aNil))))))))))) (gNm 9) (sSeq (sSet 10 (app (one reprP) (aCons (var 9) (aNil)))) (sSeq (sFor (itL (lstE (aCons (tupE (aCons (appN 1 (nox ∘ F0_is_stamp) (aCons (var 9) (aNil))) (aCons (appN 1 (nox ∘ F0_law_is_stamp) (aCons (var 9) (aNil))) (aNil)))) (aCons (tupE (aCons (appN 1 (nox ∘ F0_is_hand) (aCons (var 9) (aNil))) (aCons (appN 1 (nox ∘ F0_law_is_word) (aCons (var 9) (aNil))) (aNil)))) (aNil))))) (gTp 2 (gCn (gNm 11) (gCn (gNm 12) (gNl)))) (sIf (orT (notT (tst (app (isiD) (aCons (var 11) (aCons ((fun _ => ret (.ty "bool"))) (aNil)))))) (tstB (bin (rd2 (eqP true)) (var 11) (var 12)))) (sRet (cst (.bool false))) (sNil))) (sIf (orT (andT (tstB (bin (isBD true) (appN 1 (nox ∘ F0_is_time) (aCons (var 9) (aNil))) (cst (.bool false)))) (notT (tst (appN 2 (nox ∘ F0_law_whole) (aCons (var 9) (aCons (bin (rd2 powP) (cst (.int 10)) (cst (.int 6))) (aNil))))))) (tstB (bin (rd2 (eqP true)) (app (one reprP) (aCons (var 9) (aNil))) (var 10)))) (sRet (cst (.bool false))) (sNil))))) (sSeq (sFor (itL (lstE (aCons (var 4) (aCons (var 7) (aCons (bin (rd2 addP) (bin (rd2 addP) (bin (rd2 powP) (cst (.int 10)) (cst (.int 6))) (cst (.int 1))) (appN 2 (nox ∘ F0_law_take) (aCons (var 1) (aCons (cst (.int 9)) (aNil))))) (aNil)))))) (gNm 9) (sSeq (sSet 11 (appN 1 (nox ∘ F0_is_time) (aCons (var 9) (aNil)))) (sIf (orT (notT (tst (app (isiD) (aCons (var 11) (aCons ((fun _ => ret (.ty "bool"))) (aNil)))))) (tstB (bin (rd2 (eqP true)) (var 11) (appN 2 (nox ∘ F0_law_whole) (aCons (var 9) (aCons (bin (rd2 powP) (cst (.int 10)) (cst (.int 6))) (aNil))))))) (sRet (cst (.bool false))) (sNil)))) (sIf (tstB (bin (isBD true) (appN 1 (nox ∘ F0_is_stamp) (aCons (var 5) (aNil))) (cst (.bool true)))) (sRet (cst (.bool false))) (sNil))))))))))) (sRet (cst (.bool true))))
def F0_law : List D → M D := fnM leave 13 B_law
structure Tops (K : PySem.W.Frag) (mg : Str → Option Value) : Prop where
  d_is_whole : DefAt K mg "is_whole" s_is_whole ["thing", "least", "most"]
  d_is_word : DefAt K mg "is_word" s_is_word ["thing"]
  d_is_hand : DefAt K mg "is_hand" s_is_hand ["thing"]
  d_is_time : DefAt K mg "is_time" s_is_time ["thing"]
  d_is_stamp : DefAt K mg "is_stamp" s_is_stamp ["thing"]
  d_law_pen : DefAt K mg "_law_pen" s_law_pen ["_law_script"]
  d_law_take : DefAt K mg "_law_take" s_law_take ["_law_pen_here", "_law_upto"]
  d_law_words : DefAt K mg "_law_words" s_law_words ["_law_pen_here", "_law_many"]
  d_law_is_word : DefAt K mg "_law_is_word" s_law_is_word ["_law_thing"]
  d_law_whole : DefAt K mg "_law_whole" s_law_whole ["_law_thing", "_law_most"]
  d_law_is_stamp : DefAt K mg "_law_is_stamp" s_law_is_stamp ["_law_thing"]
  d_law_odd : DefAt K mg "_law_odd" s_law_odd ["_law_pen_here"]
  d_law : DefAt K mg "law" s_law ["_law_script"]
  m_int : mg "int" = none
  m_isinstance : mg "isinstance" = none
  m_bool : mg "bool" = none
  m_str : mg "str" = none
  m_len : mg "len" = none
  m_all : mg "all" = none
  m_tuple : mg "tuple" = none
  m_abs : mg "abs" = none
  m_range : mg "range" = none
  m_list : mg "list" = none
  m_repr : mg "repr" = none
  c_LONGEST : ∃ u, mg "LONGEST" = some u ∧ RelV (.int 8) u
  c_LETTERS : ∃ u, mg "LETTERS" = some u ∧ RelV (.str "abcdefghijklmnopqrstuvwxyz") u
  c_LAST_TIME : ∃ u, mg "LAST_TIME" = some u ∧ RelV (.int 1000000) u
  c_MOST_DEEDS : ∃ u, mg "MOST_DEEDS" = some u ∧ RelV (.int 200) u
section
variable {P : Program} {w : World} {K : PySem.W.Frag} {mg : Str → Option Value} {base : Heap}
theorem ok_is_whole (T : Tops K mg) : Def P w K mg base 1 "is_whole" 3 (nox ∘ F0_is_whole) := by
  refine def_of (k := 0) T.d_is_whole sc_is_whole lv_leave rfl fun f cdv A outer s H E hr gd => ?_
  have nd := sc_is_whole.nd
  exact (bs_one (ss_ret (es_and (es_callB c_isi (by rfl) T.m_isinstance (by decide +kernel) (as_cons (es_var 0) (as_cons (es_ty (by rfl) T.m_int (by decide +kernel)) as_nil))) (es_and (es_not (es_callB c_isi (by rfl) T.m_isinstance (by decide +kernel) (as_cons (es_var 0) (as_cons (es_ty (by rfl) T.m_bool (by decide +kernel)) as_nil)))) (es_one (es_chain (o_le) (o_le) (es_var 1) (es_var 0) (es_var 2)))))))
theorem ok_is_word (T : Tops K mg) : Def P w K mg base 1 "is_word" 1 (nox ∘ F0_is_word) := by
  refine def_of (k := 0) T.d_is_word sc_is_word lv_leave rfl fun f cdv A outer s H E hr gd => ?_
  have nd := sc_is_word.nd
  exact (bs_cons (ss_if (ws_ts (ws_or (ts_not (ts_val (es_callB c_isi (by rfl) T.m_isinstance (by decide +kernel) (as_cons (es_var 0) (as_cons (es_ty (by rfl) T.m_str (by decide +kernel)) as_nil))))) (ws_one (ts_not (ts_chain (o_le) (o_le) es_int (es_callB c_len (by rfl) T.m_len (by decide +kernel) (as_cons (es_var 0) as_nil)) (es_gc (.int 8) (by rfl) T.c_LONGEST)))))) (bs_one (ss_ret es_bl)) bs_nil)
    (bs_one (ss_ret (es_callB (c_all rfl) (by rfl) T.m_all (by decide +kernel) (as_cons (es_cmp_ (wi := fun _ _ _ => True) (own := [("sign", 1)]) (S := [1]) (by decide) rfl nd (is_str (es_var 0)) (blkOk_by (N := NN_is_word) (sc := defScope s_is_word) (by decide +kernel)) (fun _ _ _ _ _ => (gs_name nd)) (fun _ _ _ _ _ => ts_yes) (fun _ _ _ _ _ => (es_cmp (o_in hr) (es_var 1) (es_gc (.str "abcdefghijklmnopqrstuvwxyz") (by rfl) T.c_LETTERS) (by rfl)))) as_nil)))))
theorem ok_law_pen (T : Tops K mg) : Def P w K mg base 1 "_law_pen" 1 (nox ∘ F0_law_pen) := by
  refine def_of (k := 0) T.d_law_pen sc_law_pen lv_keep rfl fun f cdv A outer s H E hr gd => ?_
  have nd := sc_law_pen.nd
  exact (bs_one (ss_ret (es_cel (as_cons (es_cmp_ (wi := fun _ _ _ => True) (own := [("_law_cell", 1)]) (S := [1]) (by decide) rfl nd (is_list (es_slc (es_var 0) os_none (os_some es_int))) (blkOk_by (N := NN_law_pen) (sc := defScope s_law_pen) (by decide +kernel)) (fun _ _ _ _ _ => (gs_name nd)) (fun _ _ _ _ _ => ts_yes) (fun _ _ _ _ _ => (es_var 1))) (as_cons es_int (as_cons es_int as_nil))))))
theorem ok_law_take (T : Tops K mg) : Def P w K mg base 1 "_law_take" 2 (nox ∘ F0_law_take) := by
  refine def_of (k := 0) T.d_law_take sc_law_take lv_leave rfl fun f cdv A outer s H E hr gd => ?_
  have nd := sc_law_take.nd
  exact (bs_cons (ss_if (ts_cmp (o_gt) (es_ix ix_seqD (es_var 0) es_int) es_int (nomark _)) (bs_cons (ss_set (i := 5) nd (es_bin o_mod (es_ix ix_seqD (es_var 0) es_int) (es_var 1)))
    (bs_cons (ss_sub (es_bin o_div (es_ix ix_seqD (es_var 0) es_int) (es_var 1)) (es_var 0) es_int)
    (bs_one (ss_ret (es_var 5))))) bs_nil)
    (bs_cons (ss_set (i := 2) nd (es_ix ix_seqD (es_var 0) es_int))
    (bs_cons (ss_sub (es_bin o_add (es_var 2) es_int) (es_var 0) es_int)
    (bs_cons (ss_set (i := 3) nd (es_bin o_add (es_bin o_mul es_int (es_var 2)) es_int))
    (bs_cons (ss_if (ts_cmp (o_ne hr) (es_ix ix_seqD (es_var 0) es_int) (es_lst as_nil) (nomark _)) (bs_one (ss_set (i := 3) nd (es_ix ix_seqD (es_ix ix_seqD (es_var 0) es_int) (es_bin o_mod (es_var 2) (es_callB c_len (by rfl) T.m_len (by decide +kernel) (as_cons (es_ix ix_seqD (es_var 0) es_int) as_nil)))))) bs_nil)
    (bs_cons (ss_if (ws_ts (ws_and (ts_cmp (o_lti) (es_var 2) (es_callB c_len (by rfl) T.m_len (by decide +kernel) (as_cons (es_ix ix_seqD (es_var 0) es_int) as_nil)) (nomark _)) (ws_one (ts_cmp (o_ge) (es_callB c_abs (by rfl) T.m_abs (by decide +kernel) (as_cons (es_var 3) as_nil)) (es_bin o_pow es_int es_int) (nomark _))))) (bs_cons (ss_set (i := 6) nd (es_bin o_add (es_bin o_mul es_int (es_bin o_sub (es_callB c_abs (by rfl) T.m_abs (by decide +kernel) (as_cons (es_var 3) as_nil)) (es_bin o_pow es_int es_int))) (es_callTy c_int (by rfl) T.m_int (by decide +kernel) (as_cons (es_cmp (o_lti) (es_var 3) es_int (nomark _)) as_nil))))
    (bs_cons (ss_sub (es_bin o_div (es_var 6) (es_var 1)) (es_var 0) es_int)
    (bs_one (ss_ret (es_bin o_mod (es_var 6) (es_var 1)))))) bs_nil)
    (bs_cons (ss_set (i := 4) nd (es_bin o_mod (es_bin o_pow (es_bin o_add (es_bin o_add (es_bin o_add (es_bin o_mod (es_var 3) es_int) (es_bin o_mul es_int (es_var 2))) (es_bin o_mul (es_bin o_mul es_int (es_var 2)) (es_var 2))) es_int) es_int) es_int))
    (bs_cons (ss_set (i := 4) nd (es_bin o_mod (es_bin o_pow (es_bin o_add (es_bin o_add (es_bin o_mul (es_var 4) es_int) (es_bin o_mul es_int (es_var 2))) es_int) es_int) es_int))
    (bs_cons (ss_if (ts_cmp (o_gt) (es_var 1) (es_bin o_pow es_int es_int) (nomark _)) (bs_one (ss_set (i := 4) nd (es_bin o_pow (es_bin o_add (es_var 4) es_int) es_int))) bs_nil)
    (bs_one (ss_ret (es_bin o_mod (es_bin o_div (es_var 4) es_int) (es_var 1)))))))))))))
theorem ok_law_is_word (T : Tops K mg) : Def P w K mg base 1 "_law_is_word" 1 (nox ∘ F0_law_is_word) := by
  refine def_of (k := 0) T.d_law_is_word sc_law_is_word lv_leave rfl fun f cdv A outer s H E hr gd => ?_
  have nd := sc_law_is_word.nd
  exact (bs_cons (ss_if (ws_ts (ws_or (ts_not (ts_val (es_callB c_isi (by rfl) T.m_isinstance (by decide +kernel) (as_cons (es_var 0) (as_cons (es_ty (by rfl) T.m_str (by decide +kernel)) as_nil))))) (ws_one (ts_not (ts_chain (o_le) (o_le) es_int (es_callB c_len (by rfl) T.m_len (by decide +kernel) (as_cons (es_var 0) as_nil)) es_int))))) (bs_one (ss_ret es_bl)) bs_nil)
    (bs_one (ss_ret (es_cmp (o_eq hr) (es_cmp_ (wi := fun _ _ _ => True) (own := [("_law_sign", 1)]) (S := [1]) (by decide) rfl nd (is_str (es_var 0)) (blkOk_by (N := NN_law_is_word) (sc := defScope s_law_is_word) (by decide +kernel)) (fun _ _ _ _ _ => (gs_name nd)) (fun _ _ _ _ _ => (ts_one (ts_cmp (o_notIn hr) (es_var 1) es_str (by rfl)))) (fun _ _ _ _ _ => (es_var 1))) (es_lst as_nil) (nomark _)))))
theorem ok_law_whole (T : Tops K mg) : Def P w K mg base 1 "_law_whole" 2 (nox ∘ F0_law_whole) := by
  refine def_of (k := 0) T.d_law_whole sc_law_whole lv_leave rfl fun f cdv A outer s H E hr gd => ?_
  have nd := sc_law_whole.nd
  exact (bs_one (ss_ret (es_and (es_callB c_isi (by rfl) T.m_isinstance (by decide +kernel) (as_cons (es_var 0) (as_cons (es_ty (by rfl) T.m_int (by decide +kernel)) as_nil))) (es_and (es_not (es_callB c_isi (by rfl) T.m_isinstance (by decide +kernel) (as_cons (es_var 0) (as_cons (es_ty (by rfl) T.m_bool (by decide +kernel)) as_nil)))) (es_one (es_chain (o_le) (o_le) es_int (es_var 0) (es_var 1)))))))
theorem ok_is_hand (T : Tops K mg) : Def P w K mg base 2 "is_hand" 1 (nox ∘ F0_is_hand) := by
  have d_is_word : Def P w K mg base 1 "is_word" 1 (nox ∘ F0_is_word) := ok_is_word T
  refine def_of (k := 1) T.d_is_hand sc_is_hand lv_leave rfl fun f cdv A outer s H E hr gd => ?_
  have nd := sc_is_hand.nd
  exact (bs_one (ss_ret (es_call d_is_word hr (by decide) gd (by rfl) (as_cons (es_var 0) as_nil))))
theorem ok_is_time (T : Tops K mg) : Def P w K mg base 2 "is_time" 1 (nox ∘ F0_is_time) := by
  have d_is_whole : Def P w K mg base 1 "is_whole" 3 (nox ∘ F0_is_whole) := ok_is_whole T
  refine def_of (k := 1) T.d_is_time sc_is_time lv_leave rfl fun f cdv A outer s H E hr gd => ?_
  have nd := sc_is_time.nd
  exact (bs_one (ss_ret (es_call d_is_whole hr (by decide) gd (by rfl) (as_cons (es_var 0) (as_cons es_int (as_cons (es_gc (.int 1000000) (by rfl) T.c_LAST_TIME) as_nil))))))
theorem ok_law_words (T : Tops K mg) : Def P w K mg base 2 "_law_words" 2 (nox ∘ F0_law_words) := by
  have d_law_take : Def P w K mg base 1 "_law_take" 2 (nox ∘ F0_law_take) := ok_law_take T
  refine def_of (k := 1) T.d_law_words sc_law_words lv_leave rfl fun f cdv A outer s H E hr gd => ?_
  have nd := sc_law_words.nd
  exact (bs_cons (ss_set (i := 2) nd es_str)
    (bs_cons (ss_set (i := 3) nd (es_meth (PySem.F.plainAttrs_str) PySem.F.slot_str_join PySem.F.type_str_join m_join es_str (as_cons (es_cmp_ (wi := fun _ _ _ => True) (own := [("_law_k", 9)]) (S := [9]) (by decide) rfl nd (is_rng1 (by rfl) T.m_range (as_cons (es_call d_law_take hr (by decide) gd (by rfl) (as_cons (es_var 0) (as_cons es_int as_nil))) as_nil)) (blkOk_by (N := NN_law_words) (sc := defScope s_law_words) (by decide +kernel)) (fun _ _ _ _ _ => (gs_name nd)) (fun _ _ _ _ _ => ts_yes) (fun _ _ _ _ _ => (es_ix ix_seqD (es_var 2) (es_call d_law_take hr (by decide) gd (by rfl) (as_cons (es_var 0) (as_cons es_int as_nil)))))) as_nil)))
    (bs_cons (ss_set (i := 4) nd (es_call d_law_take hr (by decide) gd (by rfl) (as_cons (es_var 0) (as_cons (es_bin o_add (es_callB c_len (by rfl) T.m_len (by decide +kernel) (as_cons (es_var 3) as_nil)) es_int) as_nil))))
    (bs_cons (ss_set (i := 5) nd (es_call d_law_take hr (by decide) gd (by rfl) (as_cons (es_var 0) (as_cons es_int as_nil))))
    (bs_cons (ss_set (i := 6) nd (es_ix ix_seqD (es_lst (as_cons es_int (as_cons es_int (as_cons es_int (as_cons es_int (as_cons es_int (as_cons es_int as_nil))))))) (es_call d_law_take hr (by decide) gd (by rfl) (as_cons (es_var 0) (as_cons es_int as_nil)))))
    (bs_cons (ss_set (i := 7) nd (es_call d_law_take hr (by decide) gd (by rfl) (as_cons (es_var 0) (as_cons es_int as_nil))))
    (bs_cons (ss_set (i := 8) nd (es_cel as_nil))
    (bs_cons (ss_for (S := [9]) PassesOwn.never rfl (is_rng1 (by rfl) T.m_range (as_cons (es_var 1) as_nil)) (gs_name nd) (bs_cons (ss_set (i := 10) nd (es_ix ix_seqD (es_var 2) (es_bin o_mod (es_bin o_add (es_var 5) (es_bin o_mul (es_var 6) (es_var 9))) es_int)))
    (bs_one (ss_drop (es_meth (PySem.F.plainAttrs_list) PySem.F.slot_list_append PySem.F.type_list_append m_append (es_var 8) (as_cons (es_bin o_add (es_bin o_add (es_bin o_add (es_slc (es_var 3) os_none (os_some (es_var 4))) (es_var 10)) (es_slc (es_var 3) (os_some (es_var 4)) os_none)) (es_bin o_mul es_str (es_bin o_mul (es_var 7) (es_bin o_mod (es_var 9) es_int)))) as_nil))))))
    (bs_one (ss_ret (es_var 8)))))))))))
theorem ok_law_is_stamp (T : Tops K mg) : Def P w K mg base 2 "_law_is_stamp" 1 (nox ∘ F0_law_is_stamp) := by
  have d_law_is_word : Def P w K mg base 1 "_law_is_word" 1 (nox ∘ F0_law_is_word) := ok_law_is_word T
  have d_law_whole : Def P w K mg base 1 "_law_whole" 2 (nox ∘ F0_law_whole) := ok_law_whole T
  refine def_of (k := 1) T.d_law_is_stamp sc_law_is_stamp lv_leave rfl fun f cdv A outer s H E hr gd => ?_
  have nd := sc_law_is_stamp.nd
  exact (bs_cons (ss_if (ws_ts (ws_or (ts_not (ts_val (es_callB c_isi (by rfl) T.m_isinstance (by decide +kernel) (as_cons (es_var 0) (as_cons (es_ty (by rfl) T.m_tuple (by decide +kernel)) as_nil))))) (ws_or (ts_cmp (o_ne hr) (es_callB c_len (by rfl) T.m_len (by decide +kernel) (as_cons (es_var 0) as_nil)) es_int (nomark _)) (ws_one (ts_not (ts_val (es_call d_law_whole hr (by decide) gd (by rfl) (as_cons (es_ix ix_seqD (es_var 0) es_int) (as_cons (es_bin o_pow es_int es_int) as_nil))))))))) (bs_one (ss_ret es_bl)) bs_nil)
    (bs_one (ss_ret (es_and (es_call d_law_is_word hr (by decide) gd (by rfl) (as_cons (es_ix ix_seqD (es_var 0) es_int) as_nil)) (es_one (es_call d_law_whole hr (by decide) gd (by rfl) (as_cons (es_ix ix_seqD (es_var 0) es_int) (as_cons es_int as_nil))))))))
theorem ok_law_odd (T : Tops K mg) : Def P w K mg base 2 "_law_odd" 1 (nox ∘ F0_law_odd) := by
  have d_law_take : Def P w K mg base 1 "_law_take" 2 (nox ∘ F0_law_take) := ok_law_take T
  refine def_of (k := 1) T.d_law_odd sc_law_odd lv_leave rfl fun f cdv A outer s H E hr gd => ?_
  have nd := sc_law_odd.nd
  exact (bs_cons (ss_set (i := 1) nd (es_call d_law_take hr (by decide) gd (by rfl) (as_cons (es_var 0) (as_cons (es_bin o_pow es_int es_int) as_nil))))
    (bs_cons (ss_set (i := 2) nd (es_lst (as_cons es_int (as_cons es_int (as_cons es_int (as_cons (es_bin o_pow es_int es_int) (as_cons (es_bin o_add (es_bin o_pow es_int es_int) es_int) (as_cons (es_neg es_int) (as_cons (es_var 1) (as_cons es_bl (as_cons es_bl (as_cons es_non (as_cons es_str (as_cons es_str (as_cons es_str (as_cons es_str (as_cons es_str (as_cons es_str as_nil))))))))))))))))))
    (bs_cons (ss_set (i := 2) nd (es_bin o_add (es_var 2) (es_lst (as_cons es_str (as_cons (es_lst as_nil) (as_cons es_emptyD (as_cons (es_tup as_nil) (as_cons (es_lst (as_cons es_str as_nil)) (as_cons (es_bin o_pow es_int es_int) (as_cons es_str (as_cons (es_tup (as_cons es_int (as_cons es_str (as_cons es_int as_nil)))) (as_cons es_str as_nil))))))))))))
    (bs_one (ss_ret (es_ix ix_seqD (es_var 2) (es_call d_law_take hr (by decide) gd (by rfl) (as_cons (es_var 0) (as_cons es_int as_nil)))))))))
theorem ok_is_stamp (T : Tops K mg) : Def P w K mg base 3 "is_stamp" 1 (nox ∘ F0_is_stamp) := by
  have d_is_hand : Def P w K mg base 2 "is_hand" 1 (nox ∘ F0_is_hand) := ok_is_hand T
  have d_is_time : Def P w K mg base 2 "is_time" 1 (nox ∘ F0_is_time) := ok_is_time T
  have d_is_whole : Def P w K mg base 1 "is_whole" 3 (nox ∘ F0_is_whole) := ok_is_whole T
  refine def_of (k := 2) T.d_is_stamp sc_is_stamp lv_leave rfl fun f cdv A outer s H E hr gd => ?_
  have nd := sc_is_stamp.nd
  exact (bs_cons (ss_if (ws_ts (ws_or (ts_not (ts_val (es_callB c_isi (by rfl) T.m_isinstance (by decide +kernel) (as_cons (es_var 0) (as_cons (es_ty (by rfl) T.m_tuple (by decide +kernel)) as_nil))))) (ws_one (ts_cmp (o_ne hr) (es_callB c_len (by rfl) T.m_len (by decide +kernel) (as_cons (es_var 0) as_nil)) es_int (nomark _))))) (bs_one (ss_ret es_bl)) bs_nil)
    (bs_cons (ss_asg (S := [1, 2, 3]) (es_var 0) (gs_tup rfl (gss_cons (gs_name nd) (gss_cons (gs_name nd) (gss_cons (gs_name nd) gss_nil)))))
    (bs_one (ss_ret (es_and (es_call d_is_time hr (by decide) gd (by rfl) (as_cons (es_var 1) as_nil)) (es_and (es_call d_is_hand hr (by decide) gd (by rfl) (as_cons (es_var 2) as_nil)) (es_one (es_call d_is_whole hr (by decide) gd (by rfl) (as_cons (es_var 3) (as_cons es_int (as_cons (es_bin o_sub (es_gc (.int 200) (by rfl) T.c_MOST_DEEDS) es_int) as_nil)))))))))))
theorem fg_law (T : Tops K mg) {f : Addr} {fd : FuncData} (F : Fun K "law" "law" s_law f fd) : FG P w K mg base CX0 4 f fd ["_law_script"] (spF K mg 1 (nox ∘ F0_law)) := by
  have d_law_is_stamp : Def P w K mg base 2 "_law_is_stamp" 1 (nox ∘ F0_law_is_stamp) := ok_law_is_stamp T
  have d_law_is_word : Def P w K mg base 1 "_law_is_word" 1 (nox ∘ F0_law_is_word) := ok_law_is_word T
  have d_law_odd : Def P w K mg base 2 "_law_odd" 1 (nox ∘ F0_law_odd) := ok_law_odd T
  have d_law_pen : Def P w K mg base 1 "_law_pen" 1 (nox ∘ F0_law_pen) := ok_law_pen T
  have d_law_take : Def P w K mg base 1 "_law_take" 2 (nox ∘ F0_law_take) := ok_law_take T
  have d_law_whole : Def P w K mg base 1 "_law_whole" 2 (nox ∘ F0_law_whole) := ok_law_whole T
  have d_law_words : Def P w K mg base 2 "_law_words" 2 (nox ∘ F0_law_words) := ok_law_words T
  have d_is_hand : Def P w K mg base 2 "is_hand" 1 (nox ∘ F0_is_hand) := ok_is_hand T
  have d_is_stamp : Def P w K mg base 3 "is_stamp" 1 (nox ∘ F0_is_stamp) := ok_is_stamp T
  have d_is_time : Def P w K mg base 2 "is_time" 1 (nox ∘ F0_is_time) := ok_is_time T
  refine fg_fn (k := 3) F sc_law lv_leave rfl fun cdv A outer s H E hr gd => ?_
  have nd := sc_law.nd
  exact (bs_cons (ss_set (i := 1) nd (es_call d_law_pen hr (by decide) gd (by rfl) (as_cons (es_var 0) as_nil)))
    (bs_cons (ss_for (S := [2]) PassesOwn.never rfl (is_rng1 (by rfl) T.m_range (as_cons es_int as_nil)) (gs_name nd) (bs_cons (ss_set (i := 3) nd (es_ix ix_seqD (es_call d_law_words hr (by decide) gd (by rfl) (as_cons (es_var 1) (as_cons es_int as_nil))) es_int))
    (bs_cons (ss_set (i := 4) nd (es_ix ix_seqD (es_lst (as_cons es_int (as_cons (es_bin o_pow es_int es_int) (as_cons (es_call d_law_take hr (by decide) gd (by rfl) (as_cons (es_var 1) (as_cons (es_bin o_add (es_bin o_pow es_int es_int) es_int) as_nil))) as_nil)))) (es_call d_law_take hr (by decide) gd (by rfl) (as_cons (es_var 1) (as_cons es_int as_nil)))))
    (bs_cons (ss_set (i := 5) nd (es_tup (as_cons (es_var 4) (as_cons (es_var 3) (as_cons (es_ix ix_seqD (es_lst (as_cons es_int (as_cons es_int (as_cons (es_call d_law_take hr (by decide) gd (by rfl) (as_cons (es_var 1) (as_cons es_int as_nil))) as_nil)))) (es_call d_law_take hr (by decide) gd (by rfl) (as_cons (es_var 1) (as_cons es_int as_nil)))) as_nil)))))
    (bs_cons (ss_set (i := 6) nd (es_call d_law_take hr (by decide) gd (by rfl) (as_cons (es_var 1) (as_cons es_int as_nil))))
    (bs_cons (ss_set (i := 7) nd (es_call d_law_odd hr (by decide) gd (by rfl) (as_cons (es_var 1) as_nil)))
    (bs_cons (ss_set (i := 8) nd (es_bin o_add (es_bin o_add (es_slc (es_var 5) os_none (os_some (es_var 6))) (es_tup (as_cons (es_var 7) as_nil))) (es_slc (es_var 5) (os_some (es_bin o_add (es_var 6) es_int)) os_none)))
    (bs_cons (ss_for (S := [9]) PassesOwn.never rfl (is_list (es_lst (as_cons (es_var 5) (as_cons (es_var 8) (as_cons (es_callTy c_list (by rfl) T.m_list (by decide +kernel) (as_cons (es_var 5) as_nil)) (as_cons (es_slc (es_var 5) os_none (os_some es_int)) (as_cons (es_bin o_add (es_var 5) (es_tup (as_cons es_int as_nil))) (as_cons (es_var 7) (as_cons (es_tup (as_cons (es_var 5) as_nil)) (as_cons (es_var 5) as_nil)))))))))) (gs_name nd) (bs_cons (ss_set (i := 10) nd (es_callB (c_repr hr gd) (by rfl) T.m_repr (by decide +kernel) (as_cons (es_var 9) as_nil)))
    (bs_cons (ss_for (S := [11, 12]) PassesOwn.never rfl (is_list (es_lst (as_cons (es_tup (as_cons (es_call d_is_stamp hr (by decide) gd (by rfl) (as_cons (es_var 9) as_nil)) (as_cons (es_call d_law_is_stamp hr (by decide) gd (by rfl) (as_cons (es_var 9) as_nil)) as_nil))) (as_cons (es_tup (as_cons (es_call d_is_hand hr (by decide) gd (by rfl) (as_cons (es_var 9) as_nil)) (as_cons (es_call d_law_is_word hr (by decide) gd (by rfl) (as_cons (es_var 9) as_nil)) as_nil))) as_nil)))) (gs_tup rfl (gss_cons (gs_name nd) (gss_cons (gs_name nd) gss_nil))) (bs_one (ss_if (ws_ts (ws_or (ts_not (ts_val (es_callB c_isi (by rfl) T.m_isinstance (by decide +kernel) (as_cons (es_var 11) (as_cons (es_ty (by rfl) T.m_bool (by decide +kernel)) as_nil))))) (ws_one (ts_cmp (o_ne hr) (es_var 11) (es_var 12) (nomark _))))) (bs_one (ss_ret es_bl)) bs_nil)))
    (bs_one (ss_if (ws_ts (ws_or (ws_ts (ws_and (ts_cmp (o_notB) (es_call d_is_time hr (by decide) gd (by rfl) (as_cons (es_var 9) as_nil)) es_bl (nomark _)) (ws_one (ts_not (ts_val (es_call d_law_whole hr (by decide) gd (by rfl) (as_cons (es_var 9) (as_cons (es_bin o_pow es_int es_int) as_nil)))))))) (ws_one (ts_cmp (o_ne hr) (es_callB (c_repr hr gd) (by rfl) T.m_repr (by decide +kernel) (as_cons (es_var 9) as_nil)) (es_var 10) (nomark _))))) (bs_one (ss_ret es_bl)) bs_nil)))))
    (bs_cons (ss_for (S := [9]) PassesOwn.never rfl (is_list (es_lst (as_cons (es_var 4) (as_cons (es_var 7) (as_cons (es_bin o_add (es_bin o_add (es_bin o_pow es_int es_int) es_int) (es_call d_law_take hr (by decide) gd (by rfl) (as_cons (es_var 1) (as_cons es_int as_nil)))) as_nil))))) (gs_name nd) (bs_cons (ss_set (i := 11) nd (es_call d_is_time hr (by decide) gd (by rfl) (as_cons (es_var 9) as_nil)))
    (bs_one (ss_if (ws_ts (ws_or (ts_not (ts_val (es_callB c_isi (by rfl) T.m_isinstance (by decide +kernel) (as_cons (es_var 11) (as_cons (es_ty (by rfl) T.m_bool (by decide +kernel)) as_nil))))) (ws_one (ts_cmp (o_ne hr) (es_var 11) (es_call d_law_whole hr (by decide) gd (by rfl) (as_cons (es_var 9) (as_cons (es_bin o_pow es_int es_int) as_nil))) (nomark _))))) (bs_one (ss_ret es_bl)) bs_nil))))
    (bs_one (ss_if (ts_cmp (o_notB) (es_call d_is_stamp hr (by decide) gd (by rfl) (as_cons (es_var 5) as_nil)) es_bl (nomark _)) (bs_one (ss_ret es_bl)) bs_nil)))))))))))
    (bs_one (ss_ret es_bl))))
end
theorem all_mk {l : PySem.W.OpenLaw} {w : World} {K : PySem.W.Frag} {h : Heap} {mg : Str → Option Value} {fa : Addr} (X : K.In h) (GX : h.Ns mainGlobals mg) (hfa : mg "law" = some (.ref fa))
    {f_is_whole : Addr} {oc_is_whole kV_is_whole dc_is_whole pm_is_whole cd_is_whole ct_is_whole : Value} {od_is_whole an_is_whole : Option Addr} {sl_is_whole : Array (Option Value)}
    (a_is_whole : PySem.W.nsIn K mainGlobals "is_whole" = some (some (.ref f_is_whole))) (l_is_whole : K.lookup f_is_whole = some ⟨oc_is_whole, od_is_whole, .func (PySem.W.fnOf "is_whole" "is_whole" (defArgs s_is_whole) (defBody s_is_whole) (defScope s_is_whole) .none kV_is_whole dc_is_whole pm_is_whole an_is_whole cd_is_whole ct_is_whole), sl_is_whole⟩) (c_is_whole : PySem.W.codeIn K cd_is_whole "is_whole" = true) (k_is_whole : PySem.W.keepIn K (.ref f_is_whole) = true)
    {f_is_word : Addr} {oc_is_word kV_is_word dc_is_word pm_is_word cd_is_word ct_is_word : Value} {od_is_word an_is_word : Option Addr} {sl_is_word : Array (Option Value)}
    (a_is_word : PySem.W.nsIn K mainGlobals "is_word" = some (some (.ref f_is_word))) (l_is_word : K.lookup f_is_word = some ⟨oc_is_word, od_is_word, .func (PySem.W.fnOf "is_word" "is_word" (defArgs s_is_word) (defBody s_is_word) (defScope s_is_word) .none kV_is_word dc_is_word pm_is_word an_is_word cd_is_word ct_is_word), sl_is_word⟩) (c_is_word : PySem.W.codeIn K cd_is_word "is_word" = true) (k_is_word : PySem.W.keepIn K (.ref f_is_word) = true)
    {f_is_hand : Addr} {oc_is_hand kV_is_hand dc_is_hand pm_is_hand cd_is_hand ct_is_hand : Value} {od_is_hand an_is_hand : Option Addr} {sl_is_hand : Array (Option Value)}
    (a_is_hand : PySem.W.nsIn K mainGlobals "is_hand" = some (some (.ref f_is_hand))) (l_is_hand : K.lookup f_is_hand = some ⟨oc_is_hand, od_is_hand, .func (PySem.W.fnOf "is_hand" "is_hand" (defArgs s_is_hand) (defBody s_is_hand) (defScope s_is_hand) .none kV_is_hand dc_is_hand pm_is_hand an_is_hand cd_is_hand ct_is_hand), sl_is_hand⟩) (c_is_hand : PySem.W.codeIn K cd_is_hand "is_hand" = true) (k_is_hand : PySem.W.keepIn K (.ref f_is_hand) = true)
    {f_is_time : Addr} {oc_is_time kV_is_time dc_is_time pm_is_time cd_is_time ct_is_time : Value} {od_is_time an_is_time : Option Addr} {sl_is_time : Array (Option Value)}
    (a_is_time : PySem.W.nsIn K mainGlobals "is_time" = some (some (.ref f_is_time))) (l_is_time : K.lookup f_is_time = some ⟨oc_is_time, od_is_time, .func (PySem.W.fnOf "is_time" "is_time" (defArgs s_is_time) (defBody s_is_time) (defScope s_is_time) .none kV_is_time dc_is_time pm_is_time an_is_time cd_is_time ct_is_time), sl_is_time⟩) (c_is_time : PySem.W.codeIn K cd_is_time "is_time" = true) (k_is_time : PySem.W.keepIn K (.ref f_is_time) = true)
    {f_is_stamp : Addr} {oc_is_stamp kV_is_stamp dc_is_stamp pm_is_stamp cd_is_stamp ct_is_stamp : Value} {od_is_stamp an_is_stamp : Option Addr} {sl_is_stamp : Array (Option Value)}
    (a_is_stamp : PySem.W.nsIn K mainGlobals "is_stamp" = some (some (.ref f_is_stamp))) (l_is_stamp : K.lookup f_is_stamp = some ⟨oc_is_stamp, od_is_stamp, .func (PySem.W.fnOf "is_stamp" "is_stamp" (defArgs s_is_stamp) (defBody s_is_stamp) (defScope s_is_stamp) .none kV_is_stamp dc_is_stamp pm_is_stamp an_is_stamp cd_is_stamp ct_is_stamp), sl_is_stamp⟩) (c_is_stamp : PySem.W.codeIn K cd_is_stamp "is_stamp" = true) (k_is_stamp : PySem.W.keepIn K (.ref f_is_stamp) = true)
    {f_law_pen : Addr} {oc_law_pen kV_law_pen dc_law_pen pm_law_pen cd_law_pen ct_law_pen : Value} {od_law_pen an_law_pen : Option Addr} {sl_law_pen : Array (Option Value)}
    (a_law_pen : PySem.W.nsIn K mainGlobals "_law_pen" = some (some (.ref f_law_pen))) (l_law_pen : K.lookup f_law_pen = some ⟨oc_law_pen, od_law_pen, .func (PySem.W.fnOf "_law_pen" "_law_pen" (defArgs s_law_pen) (defBody s_law_pen) (defScope s_law_pen) .none kV_law_pen dc_law_pen pm_law_pen an_law_pen cd_law_pen ct_law_pen), sl_law_pen⟩) (c_law_pen : PySem.W.codeIn K cd_law_pen "_law_pen" = true) (k_law_pen : PySem.W.keepIn K (.ref f_law_pen) = true)
    {f_law_take : Addr} {oc_law_take kV_law_take dc_law_take pm_law_take cd_law_take ct_law_take : Value} {od_law_take an_law_take : Option Addr} {sl_law_take : Array (Option Value)}
    (a_law_take : PySem.W.nsIn K mainGlobals "_law_take" = some (some (.ref f_law_take))) (l_law_take : K.lookup f_law_take = some ⟨oc_law_take, od_law_take, .func (PySem.W.fnOf "_law_take" "_law_take" (defArgs s_law_take) (defBody s_law_take) (defScope s_law_take) .none kV_law_take dc_law_take pm_law_take an_law_take cd_law_take ct_law_take), sl_law_take⟩) (c_law_take : PySem.W.codeIn K cd_law_take "_law_take" = true) (k_law_take : PySem.W.keepIn K (.ref f_law_take) = true)
    {f_law_words : Addr} {oc_law_words kV_law_words dc_law_words pm_law_words cd_law_words ct_law_words : Value} {od_law_words an_law_words : Option Addr} {sl_law_words : Array (Option Value)}
    (a_law_words : PySem.W.nsIn K mainGlobals "_law_words" = some (some (.ref f_law_words))) (l_law_words : K.lookup f_law_words = some ⟨oc_law_words, od_law_words, .func (PySem.W.fnOf "_law_words" "_law_words" (defArgs s_law_words) (defBody s_law_words) (defScope s_law_words) .none kV_law_words dc_law_words pm_law_words an_law_words cd_law_words ct_law_words), sl_law_words⟩) (c_law_words : PySem.W.codeIn K cd_law_words "_law_words" = true) (k_law_words : PySem.W.keepIn K (.ref f_law_words) = true)
    {f_law_is_word : Addr} {oc_law_is_word kV_law_is_word dc_law_is_word pm_law_is_word cd_law_is_word ct_law_is_word : Value} {od_law_is_word an_law_is_word : Option Addr} {sl_law_is_word : Array (Option Value)}
    (a_law_is_word : PySem.W.nsIn K mainGlobals "_law_is_word" = some (some (.ref f_law_is_word))) (l_law_is_word : K.lookup f_law_is_word = some ⟨oc_law_is_word, od_law_is_word, .func (PySem.W.fnOf "_law_is_word" "_law_is_word" (defArgs s_law_is_word) (defBody s_law_is_word) (defScope s_law_is_word) .none kV_law_is_word dc_law_is_word pm_law_is_word an_law_is_word cd_law_is_word ct_law_is_word), sl_law_is_word⟩) (c_law_is_word : PySem.W.codeIn K cd_law_is_word "_law_is_word" = true) (k_law_is_word : PySem.W.keepIn K (.ref f_law_is_word) = true)
    {f_law_whole : Addr} {oc_law_whole kV_law_whole dc_law_whole pm_law_whole cd_law_whole ct_law_whole : Value} {od_law_whole an_law_whole : Option Addr} {sl_law_whole : Array (Option Value)}
    (a_law_whole : PySem.W.nsIn K mainGlobals "_law_whole" = some (some (.ref f_law_whole))) (l_law_whole : K.lookup f_law_whole = some ⟨oc_law_whole, od_law_whole, .func (PySem.W.fnOf "_law_whole" "_law_whole" (defArgs s_law_whole) (defBody s_law_whole) (defScope s_law_whole) .none kV_law_whole dc_law_whole pm_law_whole an_law_whole cd_law_whole ct_law_whole), sl_law_whole⟩) (c_law_whole : PySem.W.codeIn K cd_law_whole "_law_whole" = true) (k_law_whole : PySem.W.keepIn K (.ref f_law_whole) = true)
    {f_law_is_stamp : Addr} {oc_law_is_stamp kV_law_is_stamp dc_law_is_stamp pm_law_is_stamp cd_law_is_stamp ct_law_is_stamp : Value} {od_law_is_stamp an_law_is_stamp : Option Addr} {sl_law_is_stamp : Array (Option Value)}
    (a_law_is_stamp : PySem.W.nsIn K mainGlobals "_law_is_stamp" = some (some (.ref f_law_is_stamp))) (l_law_is_stamp : K.lookup f_law_is_stamp = some ⟨oc_law_is_stamp, od_law_is_stamp, .func (PySem.W.fnOf "_law_is_stamp" "_law_is_stamp" (defArgs s_law_is_stamp) (defBody s_law_is_stamp) (defScope s_law_is_stamp) .none kV_law_is_stamp dc_law_is_stamp pm_law_is_stamp an_law_is_stamp cd_law_is_stamp ct_law_is_stamp), sl_law_is_stamp⟩) (c_law_is_stamp : PySem.W.codeIn K cd_law_is_stamp "_law_is_stamp" = true) (k_law_is_stamp : PySem.W.keepIn K (.ref f_law_is_stamp) = true)
    {f_law_odd : Addr} {oc_law_odd kV_law_odd dc_law_odd pm_law_odd cd_law_odd ct_law_odd : Value} {od_law_odd an_law_odd : Option Addr} {sl_law_odd : Array (Option Value)}
    (a_law_odd : PySem.W.nsIn K mainGlobals "_law_odd" = some (some (.ref f_law_odd))) (l_law_odd : K.lookup f_law_odd = some ⟨oc_law_odd, od_law_odd, .func (PySem.W.fnOf "_law_odd" "_law_odd" (defArgs s_law_odd) (defBody s_law_odd) (defScope s_law_odd) .none kV_law_odd dc_law_odd pm_law_odd an_law_odd cd_law_odd ct_law_odd), sl_law_odd⟩) (c_law_odd : PySem.W.codeIn K cd_law_odd "_law_odd" = true) (k_law_odd : PySem.W.keepIn K (.ref f_law_odd) = true)
    {f_law : Addr} {oc_law kV_law dc_law pm_law cd_law ct_law : Value} {od_law an_law : Option Addr} {sl_law : Array (Option Value)}
    (a_law : PySem.W.nsIn K mainGlobals "law" = some (some (.ref f_law))) (l_law : K.lookup f_law = some ⟨oc_law, od_law, .func (PySem.W.fnOf "law" "law" (defArgs s_law) (defBody s_law) (defScope s_law) .none kV_law dc_law pm_law an_law cd_law ct_law), sl_law⟩) (c_law : PySem.W.codeIn K cd_law "law" = true) (k_law : PySem.W.keepIn K (.ref f_law) = true)
    (m_int : PySem.W.nsIn K mainGlobals "int" = some none)
    (m_isinstance : PySem.W.nsIn K mainGlobals "isinstance" = some none)
    (m_bool : PySem.W.nsIn K mainGlobals "bool" = some none)
    (m_str : PySem.W.nsIn K mainGlobals "str" = some none)
    (m_len : PySem.W.nsIn K mainGlobals "len" = some none)
    (m_all : PySem.W.nsIn K mainGlobals "all" = some none)
    (m_tuple : PySem.W.nsIn K mainGlobals "tuple" = some none)
    (m_abs : PySem.W.nsIn K mainGlobals "abs" = some none)
    (m_range : PySem.W.nsIn K mainGlobals "range" = some none)
    (m_list : PySem.W.nsIn K mainGlobals "list" = some none)
    (m_repr : PySem.W.nsIn K mainGlobals "repr" = some none)
    {t_LONGEST : Tok} (g_LONGEST : PySem.W.nsIn K mainGlobals "LONGEST" = some (some (.int 8 t_LONGEST)))
    {t_LETTERS : Tok} (g_LETTERS : PySem.W.nsIn K mainGlobals "LETTERS" = some (some (.str "abcdefghijklmnopqrstuvwxyz" t_LETTERS)))
    {t_LAST_TIME : Tok} (g_LAST_TIME : PySem.W.nsIn K mainGlobals "LAST_TIME" = some (some (.int 1000000 t_LAST_TIME)))
    {t_MOST_DEEDS : Tok} (g_MOST_DEEDS : PySem.W.nsIn K mainGlobals "MOST_DEEDS" = some (some (.int 200 t_MOST_DEEDS)))
    : ∃ fd : FuncData, (∀ (s : Shared) (u : Value), BindsTo s fd ⟨[u], []⟩ [("_law_script", u)]) ∧ ∀ base : Heap, K.In base → base.Ns mainGlobals mg → FG l.prog w K mg base CX0 4 fa fd ["_law_script"] (spF K mg 1 (nox ∘ F0_law)) := by
  have T : Tops K mg := ⟨defAt_mk X GX a_is_whole l_is_whole c_is_whole k_is_whole (fun _ _ _ _ _ _ us hl => match us, hl with | [_, _, _], _ => rfl),
    defAt_mk X GX a_is_word l_is_word c_is_word k_is_word (fun _ _ _ _ _ _ us hl => match us, hl with | [_], _ => rfl),
    defAt_mk X GX a_is_hand l_is_hand c_is_hand k_is_hand (fun _ _ _ _ _ _ us hl => match us, hl with | [_], _ => rfl),
    defAt_mk X GX a_is_time l_is_time c_is_time k_is_time (fun _ _ _ _ _ _ us hl => match us, hl with | [_], _ => rfl),
    defAt_mk X GX a_is_stamp l_is_stamp c_is_stamp k_is_stamp (fun _ _ _ _ _ _ us hl => match us, hl with | [_], _ => rfl),
    defAt_mk X GX a_law_pen l_law_pen c_law_pen k_law_pen (fun _ _ _ _ _ _ us hl => match us, hl with | [_], _ => rfl),
    defAt_mk X GX a_law_take l_law_take c_law_take k_law_take (fun _ _ _ _ _ _ us hl => match us, hl with | [_, _], _ => rfl),
    defAt_mk X GX a_law_words l_law_words c_law_words k_law_words (fun _ _ _ _ _ _ us hl => match us, hl with | [_, _], _ => rfl),
    defAt_mk X GX a_law_is_word l_law_is_word c_law_is_word k_law_is_word (fun _ _ _ _ _ _ us hl => match us, hl with | [_], _ => rfl),
    defAt_mk X GX a_law_whole l_law_whole c_law_whole k_law_whole (fun _ _ _ _ _ _ us hl => match us, hl with | [_, _], _ => rfl),
    defAt_mk X GX a_law_is_stamp l_law_is_stamp c_law_is_stamp k_law_is_stamp (fun _ _ _ _ _ _ us hl => match us, hl with | [_], _ => rfl),
    defAt_mk X GX a_law_odd l_law_odd c_law_odd k_law_odd (fun _ _ _ _ _ _ us hl => match us, hl with | [_], _ => rfl),
    defAt_mk X GX a_law l_law c_law k_law (fun _ _ _ _ _ _ us hl => match us, hl with | [_], _ => rfl),
    PySem.W.mg_none_of X GX m_int,
    PySem.W.mg_none_of X GX m_isinstance,
    PySem.W.mg_none_of X GX m_bool,
    PySem.W.mg_none_of X GX m_str,
    PySem.W.mg_none_of X GX m_len,
    PySem.W.mg_none_of X GX m_all,
    PySem.W.mg_none_of X GX m_tuple,
    PySem.W.mg_none_of X GX m_abs,
    PySem.W.mg_none_of X GX m_range,
    PySem.W.mg_none_of X GX m_list,
    PySem.W.mg_none_of X GX m_repr,
    ⟨_, PySem.W.mg_of X GX g_LONGEST, ⟨_, rfl⟩⟩,
    ⟨_, PySem.W.mg_of X GX g_LETTERS, ⟨_, rfl⟩⟩,
    ⟨_, PySem.W.mg_of X GX g_LAST_TIME, ⟨_, rfl⟩⟩,
    ⟨_, PySem.W.mg_of X GX g_MOST_DEEDS, ⟨_, rfl⟩⟩⟩
  exact law_fn hfa T.d_law (fun _ _ _ _ _ _ s u => .of_eq rfl) fun base f fd Ff => fg_law T Ff
end G
namespace G
open MP
open PySem (PyData Str sizeLine)
/-- the pen's cell, and the other cells -/
def pn (cs : List Int) (at_ g : Int) (rest : Hm) : Hm := .lst [.p (.list (cs.map .int)), .p (.int at_), .p (.int g)] :: rest
theorem pn_len (cs : List Int) (at_ g : Int) (rest : Hm) : (pn cs at_ g rest).length = rest.length + 1 := rfl
theorem pn0 (cs : List Int) (at_ g : Int) (rest : Hm) : (pn cs at_ g rest)[0]? = some (.lst [.p (.list (cs.map .int)), .p (.int at_), .p (.int g)]) := rfl
theorem pn_set (cs : List Int) (at_ g : Int) (rest : Hm) (ds : List D) : (pn cs at_ g rest).set 0 (.lst ds) = .lst ds :: rest := rfl
theorem ints_shaped : ∀ (cs : List Int), PyData.canLayAll0 (cs.map .int) = true
  | [] => rfl
  | c :: cs => by simp only [List.map_cons, PyData.canLayAll0, PyData.canLay0, ints_shaped cs, Bool.and_self]
theorem ints_depth : ∀ (cs : List Int), PyData.depthAll (cs.map .int) = 0
  | [] => rfl
  | c :: cs => by simp only [List.map_cons, PyData.depthAll, PyData.depth, ints_depth cs, Nat.max_self]
theorem line_ge : (1000000 : Nat) ≤ sizeLine := by decide
theorem ints_shape (cs : List Int) : PySem.SeqAt.shaped (.list (cs.map .int)) = true := by
  simp [PySem.SeqAt.shaped, PyData.canLay0, PyData.depth, ints_shaped, ints_depth]
/-- the pen, after at most n takings -/
def Pen (n : Int) (rest : Hm) (h : Hm) : Prop := ∃ cs at_ g, cs.length ≤ 63 ∧ 0 ≤ at_ ∧ at_ ≤ n ∧ 0 ≤ g ∧ h = pn cs at_ g rest
theorem num_ok (c at_ : Int) (ha : 0 ≤ at_ ∧ at_ ≤ 10000000) : ((c % 2147483629 + 40709 * at_ + 7919 * at_ * at_ + 31).natAbs < 2 ^ 64) := by
  have h1 : 0 ≤ c % 2147483629 := Int.emod_nonneg _ (by decide)
  have h2 : c % 2147483629 < 2147483629 := Int.emod_lt_of_pos _ (by decide)
  have h3 : 0 ≤ 7919 * at_ * at_ := Int.mul_nonneg (by omega) ha.1
  have h4 : 7919 * at_ * at_ ≤ 7919 * 10000000 * 10000000 := Int.mul_le_mul (by omega) ha.2 ha.1 (by omega)
  omega
theorem num_ok2 (x at_ : Int) (ha : 0 ≤ at_ ∧ at_ ≤ 10000000) : ((x % 2147483647 * 48271 + 69621 * at_ + 11).natAbs < 2 ^ 64) := by
  have h1 : 0 ≤ x % 2147483647 := Int.emod_nonneg _ (by decide)
  have h2 : x % 2147483647 < 2147483647 := Int.emod_lt_of_pos _ (by decide)
  omega
theorem num_ok3 (x : Int) : ((x % 2147483587 + 17).natAbs < 2 ^ 64) := by
  have h1 : 0 ≤ x % 2147483587 := Int.emod_nonneg _ (by decide)
  have h2 : x % 2147483587 < 2147483587 := Int.emod_lt_of_pos _ (by decide)
  omega
theorem take_w (cs : List Int) (hc : cs.length ≤ 63) (at_ g u : Int) (ha : 0 ≤ at_ ∧ at_ ≤ 10000000) (hg : 0 ≤ g) (hu : 0 < u ∧ u < 1073741824) (rest : Hm) (Q : D → Hm → Prop)
    (hq : ∀ r at' g', 0 ≤ r → r < u → at_ ≤ at' → at' ≤ at_ + 1 → 0 ≤ g' → Q (.p (.int r)) (pn cs at' g' rest)) :
    W (F0_law_take [.cell 0, .p (.int u)]) (pn cs at_ g rest) Q := by
  unfold F0_law_take
  have hs : PySem.SeqAt.shaped (.list []) = true := by decide
  by_cases g0 : 0 < g
  · simp [w_fn, B_law_take, pn, L2.ixN, g0, hu]
    exact hq _ _ _ (Int.emod_nonneg _ (by omega)) (Int.emod_lt_of_pos _ hu.1) (Int.le_refl _) (by omega) (Int.ediv_nonneg hg (by omega))
  · by_cases c0 : cs = []
    · subst c0
      simp [w_fn, B_law_take, pn, L2.ixN, g0, hu, twoS, hs, PyData.eqv, PyData.eqvAll]
      rw [if_neg (by omega)]
      refine ⟨by omega, num_ok _ _ ha, num_ok2 _ _ ha, ?_⟩
      split
      · exact ⟨num_ok3 _, hq _ _ _ (Int.emod_nonneg _ (by omega)) (Int.emod_lt_of_pos _ hu.1) (by omega) (by omega) hg⟩
      · exact hq _ _ _ (Int.emod_nonneg _ (by omega)) (Int.emod_lt_of_pos _ hu.1) (by omega) (by omega) hg
    · obtain ⟨x, hx, e⟩ := atI_mod (cs.map PyData.int) at_ (by simpa using c0)
      obtain ⟨c, _, rfl⟩ := List.mem_map.mp hx
      simp only [List.length_map] at e
      have hl : 0 < cs.length := List.length_pos_iff.mpr c0
      have hne : PyData.eqvAll (cs.map .int) [] = false := by
        cases cs with
        | nil => exact absurd rfl c0
        | cons c r => rfl
      by_cases cn : c < 0
      all_goals
        simp [w_fn, B_law_take, pn, L2.ixN, g0, hu, twoS, hs, ints_shape, PyData.eqv, hne, c0, e, cn]
        refine ⟨by omega, ?_⟩
        split
        · split
          · exact hq _ _ _ (Int.emod_nonneg _ (by omega)) (Int.emod_lt_of_pos _ hu.1) (by omega) (Int.le_refl _) (Int.ediv_nonneg (by omega) (by omega))
          · refine ⟨by omega, num_ok _ _ ha, num_ok2 _ _ ha, ?_⟩
            split
            · exact ⟨num_ok3 _, hq _ _ _ (Int.emod_nonneg _ (by omega)) (Int.emod_lt_of_pos _ hu.1) (by omega) (Int.le_refl _) hg⟩
            · exact hq _ _ _ (Int.emod_nonneg _ (by omega)) (Int.emod_lt_of_pos _ hu.1) (by omega) (Int.le_refl _) hg
        · refine ⟨by omega, num_ok _ _ ha, num_ok2 _ _ ha, ?_⟩
          split
          · exact ⟨num_ok3 _, hq _ _ _ (Int.emod_nonneg _ (by omega)) (Int.emod_lt_of_pos _ hu.1) (by omega) (Int.le_refl _) hg⟩
          · exact hq _ _ _ (Int.emod_nonneg _ (by omega)) (Int.emod_lt_of_pos _ hu.1) (by omega) (Int.le_refl _) hg
/-- one taking -/
theorem pen_take {n u : Int} {rest h : Hm} {Q : D → Hm → Prop} (p : Pen n rest h) (hn : n ≤ 10000000) (hu : 0 < u ∧ u < 1073741824) (hq : ∀ r h', 0 ≤ r → r < u → Pen (n + 1) rest h' → Q (.p (.int r)) h') : W (F0_law_take [.cell 0, .p (.int u)]) h Q := by
  obtain ⟨cs, at_, g, hc, h1, h2, h3, rfl⟩ := p
  exact take_w cs hc at_ g u ⟨h1, by omega⟩ h3 hu rest Q fun r at' g' q1 q2 q3 q4 q5 => hq r _ q1 q2 ⟨cs, at', g', hc, by omega, by omega, q5, rfl⟩
end G
namespace G
open MP
open PySem (PyData Str sizeLine)
/-- small letters alone -/
def lows (z : Str) : Prop := ∀ c ∈ z.cps.toList, 97 ≤ c ∧ c ≤ 122
theorem lows_app {x y : Str} (h : lows x) (g : lows y) : lows (x ++ y) := by
  intro c hc
  have : (x ++ y).cps = x.cps ++ y.cps := rfl
  rw [this, Array.toList_append, List.mem_append] at hc
  exact hc.elim (h c) (g c)
theorem len_app (x y : Str) : (x ++ y).length = x.length + y.length := Array.size_append
theorem len_list (x : Str) : x.cps.toList.length = x.length := rfl
theorem lows_cut {x : Str} (lo hi : Option Int) (h : lows x) : lows (cutStr x lo hi) := by
  intro c hc
  simp only [cutStr, cutP] at hc
  exact h c (List.mem_of_mem_drop (List.mem_of_mem_take hc))
theorem len_cut (x : Str) (k : Int) (h0 : 0 ≤ k) (h1 : k ≤ x.length) : (cutStr x none (some k)).length = k.toNat ∧ (cutStr x (some k) none).length = x.length - k.toNat := by
  obtain ⟨j, rfl⟩ := Int.eq_ofNat_of_zero_le h0
  have e : x.cps.toList.length = x.length := rfl
  have hj : j ≤ x.length := by omega
  constructor
  · show (cutP x.cps.toList none (some (j : Int))).length = _
    simp only [cutP, HT.sIx_none, HT.sIx_nat, e]
    simp [e, Nat.min_eq_left hj]
  · show (cutP x.cps.toList (some (j : Int)) none).length = _
    simp only [cutP, HT.sIx_none, HT.sIx_nat, e]
    simp [e, Nat.min_eq_left hj]
theorem lows_mul (n : Int) : lows (strMul "z" n) := by
  intro c hc
  simp only [strMul, List.mem_flatten, List.mem_replicate] at hc
  obtain ⟨l, ⟨_, rfl⟩, hc⟩ := hc
  have : ("z" : Str).cps.toList = [122] := by decide
  rw [this] at hc
  simp only [List.mem_singleton] at hc
  subst hc
  exact ⟨by decide, by decide⟩
theorem len_mul (n : Int) : (strMul "z" n).length = n.toNat := by
  have : ("z" : Str).cps.toList = [122] := by decide
  show ((List.replicate n.toNat ("z" : Str).cps.toList).flatten).length = _
  rw [this]
  simp
theorem abc_at (i : Int) (h0 : 0 ≤ i) (h1 : i < 26) : ∃ c : Nat, 97 ≤ c ∧ c ≤ 122 ∧ L2.atI (("abcdefghijklmnopqrstuvwxyz" : Str).cps.toList) i = some c := by
  obtain ⟨k, rfl⟩ := Int.eq_ofNat_of_zero_le h0
  have hk : k < 26 := by omega
  have h : ∀ j : Nat, j < 26 → L2.atI (("abcdefghijklmnopqrstuvwxyz" : Str).cps.toList) (j : Int) = some (97 + j) := by decide +kernel
  exact ⟨97 + k, by omega, by omega, h k hk⟩
theorem abc_len : ("abcdefghijklmnopqrstuvwxyz" : Str).length ≤ sizeLine := by decide +kernel
/-- texts of one small letter each -/
def signs (ys : List D) : Prop := ∀ y ∈ ys, ∃ c : Nat, 97 ≤ c ∧ c ≤ 122 ∧ y = .p (.str ⟨#[c]⟩)
theorem signs_txts : ∀ {ys : List D}, signs ys → ∃ (xs : List PyData) (zs : List Str), plain ys = some xs ∧ txts xs = some zs ∧ (zs.map (·.length)).sum = ys.length ∧ zs.length = ys.length ∧ (PySem.Txt.join ⟨#[]⟩ zs).length = ys.length ∧ lows (PySem.Txt.join ⟨#[]⟩ zs)
  | [], _ => ⟨[], [], rfl, rfl, rfl, rfl, rfl, by intro c hc; exact absurd hc (by simp [show (PySem.Txt.join ⟨#[]⟩ []).cps.toList = [] from rfl])⟩
  | y :: ys, h => by
    obtain ⟨c, h1, h2, rfl⟩ := h y (List.mem_cons_self ..)
    obtain ⟨xs, zs, e1, e2, e3, e4, e5, e6⟩ := signs_txts fun y hy => h y (List.mem_cons_of_mem _ hy)
    have j : (PySem.Txt.join ⟨#[]⟩ (⟨#[c]⟩ :: zs)).cps.toList = c :: (PySem.Txt.join ⟨#[]⟩ zs).cps.toList := by
      rw [TL.join_eq, TL.join_eq]
      cases zs with
      | nil => rfl
      | cons z r =>
        show ((⟨#[c]⟩ : Str) ++ ⟨#[]⟩ ++ PySem.Str.join ⟨#[]⟩ (z :: r)).cps.toList = _
        show ((#[c] ++ #[]) ++ (PySem.Str.join ⟨#[]⟩ (z :: r)).cps).toList = _
        simp
    refine ⟨.str ⟨#[c]⟩ :: xs, ⟨#[c]⟩ :: zs, by rw [plain_cons, e1]; rfl, by simp [txts, e2], ?_, by simp [e4], ?_, ?_⟩
    · simp only [List.map_cons, List.sum_cons, e3, List.length_cons]
      show 1 + _ = _
      omega
    · rw [← len_list, j, List.length_cons, len_list, e5, List.length_cons]
    · intro d hd
      rw [j, List.mem_cons] at hd
      rcases hd with rfl | hd
      · exact ⟨h1, h2⟩
      · exact e6 d hd
theorem w_join {a : Str} {xs : List PyData} {zs : List Str} {h : Hm} {Q : D → Hm → Prop} (e : txts xs = some zs) (hz : (zs.map (·.length)).sum + zs.length * a.length ≤ 16777216) (q : Q (.p (.str (PySem.Txt.join a zs))) h) : W (joinP (.p (.str a)) [.p (.list xs)]) h Q := by
  show W (match txts xs with
      | some ys => chk ((ys.map (·.length)).sum + ys.length * a.length ≤ 16777216) (ret (.p (.str (PySem.Txt.join a ys))))
      | none => bad) h Q
  rw [e]
  exact w_chk.mpr ⟨hz, w_ret.mpr q⟩
/-- a word: small letters, one to seven -/
def word7 (z : Str) : Prop := 1 ≤ z.length ∧ z.length ≤ 7 ∧ lows z
theorem Pen.len {n : Int} {rest h : Hm} (p : Pen n rest h) : h.length = rest.length + 1 := by
  obtain ⟨cs, a, g, _, _, _, _, rfl⟩ := p; rfl
theorem Pen.le {n m : Int} {rest h : Hm} (p : Pen n rest h) (e : n ≤ m) : Pen m rest h := by
  obtain ⟨cs, a, g, h0, h1, h2, h3, rfl⟩ := p
  exact ⟨cs, a, g, h0, h1, by omega, h3, rfl⟩
theorem Pen.add {n : Int} {rest h : Hm} (p : Pen n rest h) (c : C) : Pen n (rest ++ [c]) (h ++ [c]) := by
  obtain ⟨cs, a, g, h0, h1, h2, h3, rfl⟩ := p
  exact ⟨cs, a, g, h0, h1, h2, h3, rfl⟩
theorem Pen.get {n : Int} {rest h : Hm} {c : C} (p : Pen n (rest ++ [c]) h) : h[rest.length + 1]? = some c := by
  obtain ⟨cs, a, g, h0, h1, h2, h3, rfl⟩ := p
  simp [pn]
theorem Pen.put {n : Int} {rest h : Hm} {c : C} (p : Pen n (rest ++ [c]) h) (c' : C) : Pen n (rest ++ [c']) (h.set (rest.length + 1) c') := by
  obtain ⟨cs, a, g, h0, h1, h2, h3, rfl⟩ := p
  refine ⟨cs, a, g, h0, h1, h2, h3, ?_⟩
  simp [pn]
theorem Pen.low {n : Int} {rest h : Hm} {k : Nat} (p : Pen n rest h) (hl : low k rest = true) : low k h = true := by
  obtain ⟨cs, a, g, h0, h1, h2, h3, rfl⟩ := p
  unfold MP.low at hl
  simp only [List.all_eq_true] at hl
  simp only [MP.low, pn, List.all_cons, lowC, lowDs, lowD, Bool.and_self, Bool.true_and, List.all_eq_true]
  exact hl
/-- leaving with the last cell, a list of data -/
theorem leave_last {n : Int} {rest h : Hm} {xs : List PyData} {Q : D → Hm → Prop} (p : Pen n (rest ++ [.lst (xs.map .p)]) h) (hl : low (rest.length + 1) rest = true) (q : ∀ h', Pen n rest h' → Q (.p (.list xs)) h') : Wr (leave (rest.length + 1) (.cell (rest.length + 1)) h) Q := by
  obtain ⟨cs, a, g, h0, h1, h2, h3, rfl⟩ := p
  have e1 : (pn cs a g (rest ++ [.lst (xs.map .p)])).take (rest.length + 1) = pn cs a g rest := by simp [pn]
  have p' : Pen n rest (pn cs a g rest) := ⟨cs, a, g, h0, h1, h2, h3, rfl⟩
  have e2 : frz (rest.length + 1) (pn cs a g (rest ++ [.lst (xs.map .p)])) (.cell (rest.length + 1)) = some (.p (.list xs)) := by
    simp [frz, pn, plain_map]
  unfold leave
  rw [if_neg (by simp [pn]), e1, if_pos (p'.low hl), e2]
  exact wr_ok.mpr (q _ p')
theorem words_w {n m : Int} {rest h : Hm} {Q : D → Hm → Prop} (p : Pen n rest h) (hn : n ≤ 9000000) (hm : 0 ≤ m ∧ m ≤ 1000) (hl : low (rest.length + 1) rest = true)
    (hq : ∀ (zs : List Str) h', (zs.length : Int) = m → (∀ z ∈ zs, word7 z) → Pen (n + 10) rest h' → Q (.p (.list (zs.map .str))) h') : W (F0_law_words [.cell 0, .p (.int m)]) h Q := by
  unfold F0_law_words
  rw [w_fn]
  have he : Str.ofString "" = ⟨#[]⟩ := by decide
  simp only [B_law_words, w_seq, w_seti, w_meth, w_cmpE, cst_eq, w_ret, nxt_nx, List.map_cons, List.map_nil, List.length_cons, List.length_nil, w_itR1, w_aCons, w_appN, var_zero, var_succ, w_aNil, List.cons_append, List.nil_append, List.replicate_succ, List.replicate_zero, List.set_cons_succ, List.set_cons_zero, isTyD, he, wipeE]
  refine ⟨rfl, trivial, pen_take p (by omega) (by decide) fun r h1 r0 r1 p1 => ?_⟩
  simp only [is1_i]
  refine ⟨by omega, ?_⟩
  refine w_cmpL (fun ds ys h => Pen (n + 1 + ys.length) rest h ∧ signs ys ∧ ds.length + ys.length = r.toNat) ?_ _ [] _ _ ⟨p1.le (by simp), (by intro y hy; cases hy), by simp [rngL]⟩ ?_
  · rintro d ds ys h2 ⟨p2, sg, e⟩
    simp only [List.length_cons] at e
    refine ⟨_, rfl, ?_⟩
    simp only [w_yesT, if_true, w_bin, w_appN, w_aCons, w_aNil, var_zero, var_succ, cst_eq, w_ret, List.set_cons_succ, List.set_cons_zero]
    refine ⟨rfl, pen_take p2 (by omega) (by decide) fun q h3 q0 q1 p3 => ?_⟩
    rw [w_ixs]
    obtain ⟨c, c1, c2, ec⟩ := abc_at q q0 q1
    refine ⟨abc_len, c, ec, p3.le (by simp; omega), ?_, by simp; omega⟩
    intro y hy
    rcases List.mem_append.mp hy with hy | hy
    · exact sg y hy
    · rw [List.mem_singleton] at hy; exact ⟨c, c1, c2, hy⟩
  rintro zs h2 ⟨p2, sg, e⟩
  simp only [List.nil_append, List.length_nil, Nat.zero_add] at p2 sg e
  obtain ⟨xs, bs, e1, e2, e3, e4, e5, e6⟩ := signs_txts sg
  have hz : zs.length ≤ 4 := by omega
  have hL : (2000 : Nat) ≤ sizeLine := by decide
  rw [w_mkL]
  refine ⟨by omega, xs, e1, w_join e2 (by rw [e3]; show _ + _ * 0 ≤ _; omega) ?_⟩
  generalize PySem.Txt.join ⟨#[]⟩ bs = base at e5 e6
  simp only [w_bin, w_app, w_aCons, w_aNil, var_zero, var_succ, cst_eq, w_ret, w_one, lenP_s, w_chk, rd2_p, addP_i]
  refine ⟨by omega, trivial, pen_take p2 (by omega) (by omega) fun spot h3 s0 s1 p3 => ?_⟩
  refine ⟨trivial, pen_take p3 (by omega) (by decide) fun first h4 f0 f1 p4 => ?_⟩
  simp only [w_lstE, w_aCons, w_aNil, cst_eq, w_ret, w_mkL, plain_cons, plain_nil, Option.map_some, Option.some.injEq, exists_eq_left', w_appN, var_zero, var_succ]
  refine ⟨by simp only [List.length_cons, List.length_nil]; omega, rfl, pen_take p4 (by omega) (by decide) fun li h5 l0 l1 p5 => ?_⟩
  have hleap : ∃ j : Int, 0 ≤ j ∧ j ≤ 11 ∧ L2.atI [PyData.int 1, .int 3, .int 5, .int 7, .int 9, .int 11] li = some (.int j) := by
    obtain ⟨x, hx, ex⟩ := atI_lt [PyData.int 1, .int 3, .int 5, .int 7, .int 9, .int 11] li l0 (by simpa using l1)
    simp only [List.mem_cons, List.not_mem_nil, or_false] at hx
    rcases hx with rfl | rfl | rfl | rfl | rfl | rfl
    all_goals exact ⟨_, by decide, by decide, ex⟩
  obtain ⟨leap, j0, j1, ej⟩ := hleap
  rw [w_ixl]
  refine ⟨_, ej, trivial, pen_take p5 (by omega) (by decide) fun tail h6 t0 t1 p6 => ?_⟩
  simp only [w_celE, w_aNil, w_newL, w_for, w_itR1, w_aCons, w_aNil, var_zero, var_succ, w_ret, is1_i, List.length_nil]
  refine ⟨by omega, by omega, ?_⟩
  rw [p6.len]
  refine w_forL (fun ds μ h => ∃ (zs : List Str) (o9 o10 : Option D), (zs.length : Int) + ds.length = m ∧ (∀ z ∈ zs, word7 z) ∧ (∀ d ∈ ds, ∃ k : Int, 0 ≤ k ∧ k < 1000 ∧ d = .p (.int k)) ∧ Pen (n + 10) (rest ++ [.lst ((zs.map PyData.str).map .p)]) h ∧
    μ = [some (.cell 0), some (.p (.int m)), some (.p (.str "abcdefghijklmnopqrstuvwxyz")), some (.p (.str base)), some (.p (.int spot)), some (.p (.int first)), some (.p (.int leap)), some (.p (.int tail)), some (.cell (rest.length + 1)), o9, o10]) ?_ ?_ _ _ _ ⟨[], none, none, (by simp [rngL]; omega), (by intro z hz; cases hz), ?_, (p6.le (by omega)).add _, rfl⟩
  · rintro μ h7 ⟨zs, o9, o10, ez, gz, _, p7, rfl⟩
    simp only [nxt_nx, w_sret, var_zero, var_succ, w_ret]
    rw [p.len]
    simp only [List.length_nil] at ez
    exact leave_last p7 hl fun h8 p8 => hq zs h8 (by omega) gz p8
  · rintro d ds μ h7 ⟨zs, o9, o10, ez, gz, gd, p7, rfl⟩
    obtain ⟨k, k0, k1, rfl⟩ := gd d (List.mem_cons_self ..)
    simp only [List.length_cons] at ez
    refine ⟨_, rfl, ?_⟩
    simp only [w_seq, w_seti, w_bin, var_zero, var_succ, w_ret, cst_eq, List.set_cons_succ, List.set_cons_zero, rd2_p, mulP_i, addP_i, modP_i, w_chk, nxt_nx]
    obtain ⟨c, c1, c2, ec⟩ := abc_at ((first + leap * k) % 26) (Int.emod_nonneg _ (by omega)) (Int.emod_lt_of_pos _ (by omega))
    refine ⟨by omega, by omega, ?_⟩
    rw [w_ixs]
    refine ⟨abc_len, c, ec, ?_⟩
    have k3 : 0 ≤ k % 3 := Int.emod_nonneg _ (by omega)
    have k4 : k % 3 < 3 := Int.emod_lt_of_pos _ (by omega)
    have k5 : 0 ≤ tail * (k % 3) ∧ tail * (k % 3) ≤ 2 := by
      have : tail = 0 ∨ tail = 1 := by omega
      rcases this with rfl | rfl
      · simp
      · omega
    obtain ⟨u1, u2⟩ := len_cut base spot s0 (by omega)
    have hzl : ("z" : Str).length = 1 := by decide
    have hc1 : (⟨#[c]⟩ : Str).length = 1 := rfl
    simp only [w_sdrop, w_meth, w_bin, w_slcE, w_partN, w_partE, isI_i, w_aCons, w_aNil, var_zero, var_succ, w_ret, cst_eq, rd1_p, rd2_p, slcP_s, addP_s, mulP_s, mulP_i, modP_i, w_chk, w_appc, isTyD, p7.get, len_app, u1, u2, hzl, hc1, len_mul]
    refine ⟨rfl, by omega, by omega, by omega, by omega, by omega, by omega, by omega, by omega, ?_⟩
    refine ⟨_, rfl, by simp only [List.length_map]; omega, zs ++ [cutStr base none (some spot) ++ ⟨#[c]⟩ ++ cutStr base (some spot) none ++ strMul "z" (tail * (k % 3))], _, _, by simp only [List.length_append, List.length_cons, List.length_nil]; omega, ?_, fun d hd => gd d (List.mem_cons_of_mem _ hd), ?_, rfl⟩
    · intro z hz
      rcases List.mem_append.mp hz with hz | hz
      · exact gz z hz
      · rw [List.mem_singleton] at hz
        subst hz
        refine ⟨by simp only [len_app, u1, u2, len_mul, hc1]; omega, by simp only [len_app, u1, u2, len_mul, hc1]; omega, lows_app (lows_app (lows_app (lows_cut _ _ e6) ?_) (lows_cut _ _ e6)) (lows_mul _)⟩
        intro x hx
        have : x = c := by simpa using hx
        subst this
        exact ⟨c1, c2⟩
    · have := p7.put (.lst (((zs ++ [cutStr base none (some spot) ++ ⟨#[c]⟩ ++ cutStr base (some spot) none ++ strMul "z" (tail * (k % 3))]).map PyData.str).map .p))
      simpa only [List.map_append, List.map_cons, List.map_nil] using this
  · intro d hd
    simp only [rngL, List.mem_map, List.mem_range] at hd
    obtain ⟨i, hi, rfl⟩ := hd
    exact ⟨_, by omega, by omega, rfl⟩
end G
namespace G
open MP
open PySem (PyData Str sizeLine)
def abc : Str := "abcdefghijklmnopqrstuvwxyz"
def signB (c : Nat) : Bool := inTxt ⟨#[c]⟩ abc
def isWholeB (lo hi : Int) : PyData → Bool
  | .int i => decide (lo ≤ i) && decide (i ≤ hi)
  | _ => false
def isWordB : PyData → Bool
  | .str z => decide (1 ≤ z.length) && decide (z.length ≤ 8) && z.cps.toList.all signB
  | _ => false
def isStampB : PyData → Bool
  | .tuple [a, b, c] => isWholeB 0 1000000 a && isWordB b && isWholeB 0 199 c
  | _ => false
/-- texts are short and plain -/
def fine : PyData → Bool
  | .str z => decide (z.length ≤ 1000) && PyData.strOk z
  | _ => true
section
variable {h : Hm} {Q : D → Hm → Prop}
theorem whole_w {x : PyData} {lo hi : Int} : W (F0_is_whole [.p x, .p (.int lo), .p (.int hi)]) h Q ↔ Q (.p (.bool (isWholeB lo hi x))) h := by
  unfold F0_is_whole
  rw [w_fun]
  cases x with
  | int i =>
    by_cases q : lo ≤ i
    · simp [B_is_whole, tyP, isiT, isWholeB, q]
    · have q' : ¬ (lo ≤ i) := q
      simp only [Int.not_le] at q
      simp [B_is_whole, tyP, isiT, isWholeB, q', q, decide_eq_false q']
  | _ => simp [B_is_whole, tyP, isiT, isWholeB]
theorem whole_w2 {x : PyData} {hi : Int} : W (F0_law_whole [.p x, .p (.int hi)]) h Q ↔ Q (.p (.bool (isWholeB 0 hi x))) h := by
  unfold F0_law_whole
  rw [w_fun]
  cases x with
  | int i =>
    by_cases q : 0 ≤ i
    · simp [B_law_whole, tyP, isiT, isWholeB, q]
    · have q' : ¬ (0 ≤ i) := q
      simp only [Int.not_le] at q
      simp [B_law_whole, tyP, isiT, isWholeB, q', q, decide_eq_false q']
  | _ => simp [B_law_whole, tyP, isiT, isWholeB]
theorem time_w {x : PyData} : W (F0_is_time [.p x]) h Q ↔ Q (.p (.bool (isWholeB 0 1000000 x))) h := by
  unfold F0_is_time
  rw [w_fun]
  simp [B_is_time, whole_w]
theorem line_1000 : (1000 : Nat) ≤ sizeLine := by decide
theorem word_w {x : PyData} (hx : fine x = true) : W (F0_is_word [.p x]) h Q ↔ Q (.p (.bool (isWordB x))) h := by
  unfold F0_is_word
  rw [w_fun]
  cases x with
  | str z =>
    simp only [fine, Bool.and_eq_true, decide_eq_true_eq] at hx
    have h1 : z.length ≤ sizeLine := Nat.le_trans hx.1 line_1000
    by_cases c : 1 ≤ z.length ∧ z.length ≤ 8
    · have c1 : (1 : Int) ≤ z.length := by omega
      have c2 : (z.length : Int) ≤ 8 := by omega
      have e : cmpL (gNm 1) yesT (bin (rd2 (inP false)) (var 1) (cst (.str "abcdefghijklmnopqrstuvwxyz"))) [some (.p (.str z)), none] (sgnL z) h = .ok (z.cps.toList.map fun c => .p (.bool (signB c))) h := by
        have := cmpL_map (g := gNm 1) (tt := yesT) (te := bin (rd2 (inP false)) (var 1) (cst (.str "abcdefghijklmnopqrstuvwxyz"))) (μ := [some (.p (.str z)), none]) (h := h) (fun c => D.p (.str ⟨#[c]⟩)) (fun _ => true) (fun c => .p (.bool (signB c))) z.cps.toList fun c _ => ⟨_, rfl, rfl, fun _ => rfl⟩
        rwa [List.filter_eq_self.mpr fun _ _ => rfl] at this
      simp [B_is_word, tyP, isiT, isWordB, h1, w_cmpE, wipeE, c, c1, c2]
      rw [w_of e, plain_mapf]
      have hl : z.cps.size ≤ sizeLine := h1
      simp [allP, bools_map, hl]
    · have : isWordB (.str z) = false := by
        simp only [isWordB, Bool.and_eq_false_iff, decide_eq_false_iff_not]
        omega
      rw [this]
      by_cases c1 : 1 ≤ z.length
      · have c2 : ¬ (z.length : Int) ≤ 8 := by omega
        simp [B_is_word, tyP, isiT, h1, w_cmpE, wipeE, c2]
      · have c2 : ¬ (1 : Int) ≤ z.length := by omega
        simp [B_is_word, tyP, isiT, h1, w_cmpE, wipeE, c2]
  | _ => simp [B_is_word, tyP, isiT, isWordB]
theorem one_shaped : ∀ (cs : List Nat), (∀ c ∈ cs, c < 0x110000) → PyData.canLayAll0 (cs.map fun c => .str ⟨#[c]⟩) = true ∧ PyData.depthAll (cs.map fun c => .str ⟨#[c]⟩) = 0
  | [], _ => ⟨rfl, rfl⟩
  | c :: cs, hc => by
    obtain ⟨h1, h2⟩ := one_shaped cs fun d hd => hc d (List.mem_cons_of_mem _ hd)
    have h3 := hc c (List.mem_cons_self ..)
    simp [PyData.canLayAll0, PyData.canLay0, PyData.strOk, PyData.depthAll, PyData.depth, h1, h2, h3]
theorem word_w2 {x : PyData} (hx : fine x = true) : W (F0_law_is_word [.p x]) h Q ↔ Q (.p (.bool (isWordB x))) h := by
  unfold F0_law_is_word
  rw [w_fun]
  cases x with
  | str z =>
    simp only [fine, Bool.and_eq_true, decide_eq_true_eq] at hx
    have h1 : z.length ≤ sizeLine := Nat.le_trans hx.1 line_1000
    by_cases c : 1 ≤ z.length ∧ z.length ≤ 8
    · have c1 : (1 : Int) ≤ z.length := by omega
      have c2 : (z.length : Int) ≤ 8 := by omega
      have e : cmpL (gNm 1) (tstB (bin (rd2 (inP true)) (var 1) (cst (.str "abcdefghijklmnopqrstuvwxyz")))) (var 1) [some (.p (.str z)), none] (sgnL z) h = .ok ((z.cps.toList.filter fun c => !signB c).map fun c => .p (.str ⟨#[c]⟩)) h :=
        cmpL_map (g := gNm 1) (tt := tstB (bin (rd2 (inP true)) (var 1) (cst (.str "abcdefghijklmnopqrstuvwxyz")))) (te := var 1) (μ := [some (.p (.str z)), none]) (h := h) (fun c => D.p (.str ⟨#[c]⟩)) (fun c => !signB c) (fun c => .p (.str ⟨#[c]⟩)) z.cps.toList fun c _ => ⟨_, rfl, rfl, fun _ => rfl⟩
      simp [B_law_is_word, tyP, isiT, isWordB, h1, w_cmpE, wipeE, c, c1, c2]
      rw [w_of e, plain_mapf]
      have hs : ∀ c ∈ z.cps.toList.filter (fun c => !signB c), c < 0x110000 := fun c hc => by
        have h0 := hx.2
        simp only [PyData.strOk] at h0
        have := (Array.all_eq_true_iff_forall_mem.mp h0) c (Array.mem_toList_iff.mp (List.mem_filter.mp hc).1)
        simpa using this
      obtain ⟨s1, s2⟩ := one_shaped _ hs
      have hl : (z.cps.toList.filter fun c => !signB c).length ≤ sizeLine := Nat.le_trans (List.length_filter_le ..) h1
      have hsh : PySem.SeqAt.shaped (.list ((z.cps.toList.filter fun c => !signB c).map fun c => .str ⟨#[c]⟩)) = true := by
        simp [PySem.SeqAt.shaped, PyData.canLay0, PyData.depth, s1, s2]
      have hv : PyData.eqv (.list ((z.cps.toList.filter fun c => !signB c).map fun c => .str ⟨#[c]⟩)) (.list []) = z.cps.all signB := by
        rw [← Array.all_toList]
        generalize z.cps.toList = cs
        simp only [PyData.eqv]
        induction cs with
        | nil => rfl
        | cons c cs ih =>
          cases q : signB c with
          | false => simp [q, PyData.eqvAll]
          | true => simpa [q] using ih
      have hn : PySem.SeqAt.shaped (.list []) = true := by decide
      simp only [List.length_map, hl, true_and, Option.some.injEq, exists_eq_left', rd2_p, w_eqP, hsh, hn, hv, and_self, or_true, leave_self, Bool.false_eq_true, if_false]
    · have : isWordB (.str z) = false := by
        simp only [isWordB, Bool.and_eq_false_iff, decide_eq_false_iff_not]
        omega
      rw [this]
      by_cases c1 : 1 ≤ z.length
      · have c2 : ¬ (z.length : Int) ≤ 8 := by omega
        simp [B_law_is_word, tyP, isiT, h1, w_cmpE, wipeE, c2]
      · have c2 : ¬ (1 : Int) ≤ z.length := by omega
        simp [B_law_is_word, tyP, isiT, h1, w_cmpE, wipeE, c2]
  | _ => simp [B_law_is_word, tyP, isiT, isWordB]
theorem hand_w {x : PyData} (hx : fine x = true) : W (F0_is_hand [.p x]) h Q ↔ Q (.p (.bool (isWordB x))) h := by
  unfold F0_is_hand
  rw [w_fun]
  simp [B_is_hand, word_w hx]
/-- its items too -/
def fineT : PyData → Bool
  | .tuple xs => xs.all fine
  | x => fine x
theorem shaped_int (i : Int) : PySem.SeqAt.shaped (.int i) = true := rfl
theorem shaped_bool (i : Bool) : PySem.SeqAt.shaped (.bool i) = true := rfl
theorem stamp_w {x : PyData} (hx : fineT x = true) : W (F0_is_stamp [.p x]) h Q ↔ Q (.p (.bool (isStampB x))) h := by
  unfold F0_is_stamp
  rw [w_fun]
  cases x with
  | tuple xs =>
    match xs with
    | [] => simp [B_is_stamp, tyP, isiT, isStampB, shaped_int, PyData.eqv]
    | [a] => simp [B_is_stamp, tyP, isiT, isStampB, shaped_int, PyData.eqv]
    | [a, b] => simp [B_is_stamp, tyP, isiT, isStampB, shaped_int, PyData.eqv]
    | [a, b, c] =>
      simp only [fineT, List.all_cons, List.all_nil, Bool.and_true, Bool.and_eq_true] at hx
      simp [B_is_stamp, tyP, isiT, isStampB, shaped_int, PyData.eqv, gTp, itemsT, gCn, gNm, gNl, time_w, hand_w hx.2.1, whole_w]
      cases isWholeB 0 1000000 a <;> cases isWordB b <;> simp
    | a :: b :: c :: d :: r =>
      have : ¬ ((r.length : Int) + 1 + 1 + 1 + 1 = 3) := by omega
      simp [B_is_stamp, tyP, isiT, isStampB, shaped_int, PyData.eqv, this]
  | _ => simp [B_is_stamp, tyP, isiT, isStampB]
theorem stamp_w2 {x : PyData} (hx : fineT x = true) : W (F0_law_is_stamp [.p x]) h Q ↔ Q (.p (.bool (isStampB x))) h := by
  unfold F0_law_is_stamp
  rw [w_fun]
  cases x with
  | tuple xs =>
    match xs with
    | [] => simp [B_law_is_stamp, tyP, isiT, isStampB, shaped_int, PyData.eqv]
    | [a] => simp [B_law_is_stamp, tyP, isiT, isStampB, shaped_int, PyData.eqv]
    | [a, b] => simp [B_law_is_stamp, tyP, isiT, isStampB, shaped_int, PyData.eqv]
    | [a, b, c] =>
      simp only [fineT, List.all_cons, List.all_nil, Bool.and_true, Bool.and_eq_true] at hx
      simp [B_law_is_stamp, tyP, isiT, isStampB, shaped_int, PyData.eqv, word_w2 hx.2.1, whole_w2]
      cases isWholeB 0 1000000 a <;> cases isWordB b <;> simp [whole_w2, word_w2 hx.2.1]
    | a :: b :: c :: d :: r =>
      have : ¬ ((r.length : Int) + 1 + 1 + 1 + 1 = 3) := by omega
      simp [B_law_is_stamp, tyP, isiT, isStampB, shaped_int, PyData.eqv, this]
  | _ => simp [B_law_is_stamp, tyP, isiT, isStampB]
/-- the odd things -/
def odds (far : Int) : List PyData := [.int 0, .int 199, .int 200, .int 1000000, .int 1000001, .int (-1), .int far, .bool true, .bool false, .none, .str "", .str "a", .str "abcdefgh", .str "abcdefghi", .str "A", .str "a1",
  .str "a\n", .list [], .dict [], .tuple [], .list [.str "a"], .int (10 ^ 59), .str "0", .tuple [.int 0, .str "a", .int 0], .str "{"]
theorem odd_w {n : Int} {rest : Hm} (p : Pen n rest h) (hn : n ≤ 9000000) (hq : ∀ x far h', 0 ≤ far → far < 1000000000 → x ∈ odds far → Pen (n + 2) rest h' → Q (.p x) h') : W (F0_law_odd [.cell 0]) h Q := by
  unfold F0_law_odd
  rw [w_fun]
  simp [B_law_odd]
  refine pen_take p (by omega) (by decide) fun far h1 f0 f1 p1 => ?_
  have hL : (2000 : Nat) ≤ sizeLine := by decide
  have l1 : (1 : Nat) ≤ sizeLine := by omega
  have l3 : (3 : Nat) ≤ sizeLine := by omega
  have l9 : (9 : Nat) ≤ sizeLine := by omega
  have l16 : (16 : Nat) ≤ sizeLine := by omega
  have l25 : (25 : Nat) ≤ sizeLine := by omega
  simp [emptyD, tupD, l1, l3, l9, l16, l25]
  refine pen_take p1 (by omega) (by decide) fun i h2 i0 i1 p2 => ?_
  obtain ⟨x, hx, e⟩ := atI_lt (odds far) i i0 (by simpa [odds] using i1)
  rw [w_ixl]
  refine ⟨x, e, ?_⟩
  rw [leave_same (by rw [p2.len, p.len])]
  exact hq x far h2 f0 f1 hx (p2.le (by omega))
end
/-! what repr needs -/
def NX (d w : Nat) (x : PyData) : Prop := x.showable = true ∧ x.leavesShort 64 = true ∧ x.depth ≤ d ∧ x.weight ≤ w
theorem NX.le {d w d' w' : Nat} {x : PyData} (h : NX d w x) (e1 : d ≤ d') (e2 : w ≤ w') : NX d' w' x := ⟨h.1, h.2.1, Nat.le_trans h.2.2.1 e1, Nat.le_trans h.2.2.2 e2⟩
theorem nx_all {d w : Nat} : ∀ {xs : List PyData}, (∀ x ∈ xs, NX d w x) → PyData.showableAll xs = true ∧ PyData.leavesShortAll 64 xs = true ∧ PyData.depthAll xs ≤ d ∧ PyData.weightAll xs ≤ xs.length * (w + 1)
  | [], _ => ⟨rfl, rfl, Nat.zero_le _, Nat.zero_le _⟩
  | x :: xs, h => by
    obtain ⟨h1, h2, h3, h4⟩ := h x (List.mem_cons_self ..)
    obtain ⟨g1, g2, g3, g4⟩ := nx_all fun y hy => h y (List.mem_cons_of_mem _ hy)
    refine ⟨by simp [PyData.showableAll, h1, g1], by simp [PyData.leavesShortAll, h2, g2], by simp only [PyData.depthAll]; omega, ?_⟩
    simp only [PyData.weightAll, List.length_cons, Nat.add_mul, Nat.one_mul]
    omega
theorem nx_tup {d w : Nat} {xs : List PyData} (h : ∀ x ∈ xs, NX d w x) : NX (d + 1) (xs.length * (w + 1)) (.tuple xs) := by
  obtain ⟨g1, g2, g3, g4⟩ := nx_all h
  exact ⟨by simpa only [PyData.showable] using g1, by simpa only [PyData.leavesShort] using g2, by simp only [PyData.depth]; omega, by simpa only [PyData.weight] using g4⟩
theorem nx_lst {d w : Nat} {xs : List PyData} (h : ∀ x ∈ xs, NX d w x) : NX (d + 1) (xs.length * (w + 1)) (.list xs) := by
  obtain ⟨g1, g2, g3, g4⟩ := nx_all h
  exact ⟨by simpa only [PyData.showable] using g1, by simpa only [PyData.leavesShort] using g2, by simp only [PyData.depth]; omega, by simpa only [PyData.weight] using g4⟩
theorem nx_int {i : Int} (h : i.natAbs < 10 ^ 12) : NX 0 50 (.int i) := by
  refine ⟨?_, ?_, Nat.le_refl _, ?_⟩
  · simp only [PyData.showable, decide_eq_true_eq]
    by_cases z : i.natAbs = 0
    · rw [z]; decide
    · exact Nat.lt_of_lt_of_le ((Nat.log2_lt z).mpr (Nat.lt_of_lt_of_le h (by decide : 10 ^ 12 ≤ 2 ^ 48))) (by decide)
  · simp only [PyData.leavesShort, decide_eq_true_eq]
    exact Nat.le_trans (PyData.shown_int_le h) (by decide)
  · simp only [PyData.weight]
    split
    · omega
    · rename_i z
      have z' : i.natAbs ≠ 0 := by
        intro e; apply z; rw [Int.natAbs_eq_zero] at e; rw [e]; rfl
      have := (Nat.log2_lt z').mpr (Nat.lt_of_lt_of_le h (by decide : 10 ^ 12 ≤ 2 ^ 48))
      omega
theorem nx_word {z : Str} (h : word7 z) : NX 0 50 (.str z) := by
  refine ⟨rfl, ?_, Nat.le_refl _, ?_⟩
  · simp only [PyData.leavesShort, List.all_eq_true, decide_eq_true_eq]
    intro c hc
    have := (h.2.2 c hc).2
    omega
  · have : z.cps.size ≤ 7 := h.2.1
    simp only [PyData.weight]
    omega
theorem okShow_of {x : PyData} {d w : Nat} (h : NX d w x) (hd : d ≤ 60) (hw : w ≤ 2000) (hl : x.hasDict = true → hasList x = false) : okShow x := by
  refine ⟨h.1, ?_, by have := h.2.2.1; omega, hl⟩
  have h1 := PyData.shown_le 64 (by decide) x h.2.1
  have h2 := h.2.2.2
  have hL : (200000 : Nat) ≤ sizeLine := by decide
  have : (64 + 2) * x.weight ≤ 66 * 2000 := Nat.mul_le_mul (by omega) (by omega)
  omega
def oddOk (x : PyData) : Bool := x.showable && x.leavesShort 64 && decide (x.depth ≤ 1) && decide (x.weight ≤ 250) && fine x && fineT x && (!x.hasDict || !hasList x)
theorem odd_ok {far : Int} (h0 : 0 ≤ far) (h1 : far < 1000000000) : ∀ x ∈ odds far, NX 1 250 x ∧ fine x = true ∧ fineT x = true ∧ (x.hasDict = true → hasList x = false) := by
  have hf : NX 1 250 (.int far) := (nx_int (by omega)).le (by decide) (by decide)
  have hc : ∀ x ∈ (odds 0), oddOk x = true := by decide +kernel
  have ho : ∀ x, oddOk x = true → NX 1 250 x ∧ fine x = true ∧ fineT x = true ∧ (x.hasDict = true → hasList x = false) := fun x hx => by
    simp only [oddOk, Bool.and_eq_true, decide_eq_true_eq, Bool.or_eq_true, Bool.not_eq_true'] at hx
    obtain ⟨⟨⟨⟨⟨⟨a, b⟩, c⟩, d⟩, e⟩, f⟩, g⟩ := hx
    exact ⟨⟨a, b, c, d⟩, e, f, fun q => g.elim (fun z => by rw [z] at q; cases q) id⟩
  intro x hx
  by_cases e : x = .int far
  · subst e
    exact ⟨hf, rfl, rfl, fun q => by cases q⟩
  · refine ho x (hc x ?_)
    simp only [odds, List.mem_cons, e, false_or, or_false, List.not_mem_nil] at hx ⊢
    rcases hx with h | h | h | h | h | h | h
    · exact .inl h
    · exact .inr (.inl h)
    · exact .inr (.inr (.inl h))
    · exact .inr (.inr (.inr (.inl h)))
    · exact .inr (.inr (.inr (.inr (.inl h))))
    · exact .inr (.inr (.inr (.inr (.inr (.inl h)))))
    · exact .inr (.inr (.inr (.inr (.inr (.inr (.inr h))))))
theorem low_sign {c : Nat} (h : 97 ≤ c ∧ c ≤ 122) : signB c = true := by
  have : ∀ j : Nat, j < 26 → signB (97 + j) = true := by decide +kernel
  have := this (c - 97) (by omega)
  rwa [show 97 + (c - 97) = c by omega] at this
theorem word7_isWord {z : Str} (h : word7 z) : isWordB (.str z) = true ∧ fine (.str z) = true := by
  obtain ⟨h1, h2, h3⟩ := h
  have a1 : z.cps.all signB = true := by
    rw [← Array.all_toList, List.all_eq_true]
    exact fun c hc => low_sign (h3 c hc)
  have a2 : PyData.strOk z = true := by
    simp only [PyData.strOk]
    rw [← Array.all_toList, List.all_eq_true]
    intro c hc
    have := (h3 c hc).2
    exact decide_eq_true (by omega)
  simp [isWordB, fine, a1, a2, h1]
  omega
theorem pen_w {ns : List Int} (hn : ns.length ≤ 63) {Q : D → Hm → Prop} (q : ∀ h', Pen 0 [] h' → Q (.cell 0) h') : W (F0_law_pen [.p (.list (ns.map .int))]) [] Q := by
  unfold F0_law_pen
  rw [w_fun]
  have hc : cutP (ns.map PyData.int) none (some 63) = ns.map .int := by
    simp only [cutP, HT.sIx_none, List.length_map, List.drop_zero, Nat.sub_zero]
    rw [show (63 : Int) = ((63 : Nat) : Int) from rfl, HT.sIx_nat, Nat.min_eq_right hn]
    exact List.take_of_length_le (by simp)
  have hL : (2000 : Nat) ≤ sizeLine := by decide
  have e : cmpL (gNm 1) yesT (var 1) [some (.p (.list (ns.map .int))), none] ((ns.map .int).map D.p) [] = .ok (ns.map fun i => .p (.int i)) [] := by
    have := cmpL_map (g := gNm 1) (tt := yesT) (te := var 1) (μ := [some (.p (.list (ns.map .int))), none]) (h := []) (fun x => D.p x) (fun _ => true) (fun x => .p x) (ns.map PyData.int) fun c _ => ⟨_, rfl, rfl, fun _ => rfl⟩
    rw [List.filter_eq_self.mpr fun _ _ => rfl, List.map_map] at this
    rw [List.map_map]
    exact this
  simp [B_law_pen, w_cmpE, hc, wipeE]
  have l63 : ns.length ≤ sizeLine := by omega
  have l3 : (3 : Nat) ≤ sizeLine := by omega
  rw [List.map_map] at e
  rw [w_of e, plain_mapf]
  simp [l63, l3, leaveK_eq]
  exact q _ ⟨ns, 0, 0, hn, by decide, by decide, by decide, rfl⟩
end G
namespace G
open MP
open PySem (PyData Str sizeLine)
theorem pick3 {a b c : Int} {i : Int} (h0 : 0 ≤ i) (h1 : i < 3) (P : Int → Prop) (pa : P a) (pb : P b) (pc : P c) : ∃ x, P x ∧ L2.atI [PyData.int a, .int b, .int c] i = some (.int x) := by
  have : i = 0 ∨ i = 1 ∨ i = 2 := by omega
  rcases this with rfl | rfl | rfl
  · exact ⟨a, pa, atI_0 _ _⟩
  · exact ⟨b, pb, atI_1 _ _ _⟩
  · exact ⟨c, pc, atI_2 _ _ _ _⟩
theorem isBD_b (neg a b : Bool) : isBD neg (.p (.bool a)) (.p (.bool b)) = ret (.p (.bool (if neg then !decide (a = b) else decide (a = b)))) := rfl
theorem leave0 {h : Hm} {x : PyData} {Q : D → Hm → Prop} (q : ∀ h', Q (.p x) h') : Wr (leave 0 (.p x) h) Q := by
  unfold leave
  split
  · exact wr_ok.mpr (q _)
  · rw [List.take_zero, if_pos (by rfl)]
    exact wr_ok.mpr (q _)
/-- a thing that the law may look at -/
def thing (x : PyData) : Prop := fine x = true ∧ fineT x = true ∧ okShow x
theorem law_w {ns : List Int} (hn : ns.length ≤ 63) : W (F0_law [.p (.list (ns.map .int))]) [] fun d _ => d = .p (.bool true) := by
  unfold F0_law
  rw [w_fun]
  simp only [B_law, w_seq, w_seti, w_appN, w_aCons, w_aNil, List.map_cons, List.map_nil, List.length_cons, List.length_nil, var_zero, var_succ, w_ret, List.cons_append, List.nil_append, List.replicate_succ, List.replicate_zero, List.set_cons_succ, List.set_cons_zero]
  refine ⟨trivial, pen_w hn fun h1 p1 => ?_⟩
  simp only [nxt_nx, w_seq, w_for, w_itR1, w_aCons, w_aNil, cst_eq, w_ret, is1_i]
  refine ⟨by decide, ?_⟩
  refine w_forI (fun ds μ h => Pen (60 * (12 - ds.length)) [] h ∧ ds.length ≤ 12 ∧ ∃ s o2 o3 o4 o5 o6 o7 o8 o9 o10 o11 o12, μ = [some s, some (.cell 0), o2, o3, o4, o5, o6, o7, o8, o9, o10, o11, o12]) ?_ ?_ _ _ _ ⟨p1.le (by simp [rngL]), by simp [rngL], _, _, _, _, _, _, _, _, _, _, _, _, rfl⟩
  · rintro μ h ⟨p, _, s, o2, o3, o4, o5, o6, o7, o8, o9, o10, o11, o12, rfl⟩
    simp only [nxt_nx, w_sret, cst_eq, w_ret, fin_rt]
    exact leave0 fun _ => rfl
  · rintro d ds μ h ⟨p, hl, s, o2, o3, o4, o5, o6, o7, o8, o9, o10, o11, o12, rfl⟩
    simp only [List.length_cons] at p hl
    have pN : Pen (60 * (11 - ds.length)) [] h := p.le (by omega)
    clear p
    generalize hN : (60 * (11 - (ds.length : Int))) = N at pN
    refine ⟨_, rfl, ?_⟩
    simp only [w_seq, w_seti, w_bin, w_appN, w_aCons, w_aNil, var_zero, var_succ, w_ret, cst_eq, List.set_cons_succ, List.set_cons_zero, List.length_cons, List.length_nil]
    refine ⟨trivial, words_w pN (by omega) (by decide) rfl fun zs h2 hz gz p2 => ?_⟩
    match zs, hz, gz with
    | [z0, z1], _, gz =>
      have g1 := gz z1 (by simp)
      rw [w_ixl]
      refine ⟨_, atI_1 _ _ _, ?_⟩
      simp only [List.map_cons, List.map_nil, nxt_nx, w_seq, w_seti, w_bin, w_appN, w_aCons, w_aNil, var_zero, var_succ, w_ret, cst_eq, List.set_cons_succ, List.set_cons_zero, List.length_cons, List.length_nil, w_lstE, rd2_p, powP_i, addP_i, w_chk]
      refine ⟨by decide, by decide, trivial, pen_take p2 (by omega) (by decide) fun t0 h3 a0 a1 p3 => ?_⟩
      have hL : (2000 : Nat) ≤ sizeLine := by decide
      have l1 : (1 : Nat) ≤ sizeLine := by omega
      have l2 : (2 : Nat) ≤ sizeLine := by omega
      have l3 : (3 : Nat) ≤ sizeLine := by omega
      have l4 : (4 : Nat) ≤ sizeLine := by omega
      have l8 : (8 : Nat) ≤ sizeLine := by omega
      have x6 : (10 : Int) ^ Int.toNat 6 = 1000000 := by decide
      simp only [w_mkL, plain_cons, plain_nil, Option.map_some, Option.some.injEq, exists_eq_left', List.length_cons, List.length_nil, x6] at a1 ⊢
      refine ⟨l3, trivial, pen_take p3 (by omega) (by decide) fun i1 h4 b0 b1 p4 => ?_⟩
      obtain ⟨t, ht, et⟩ := pick3 (a := 0) (b := 1000000) (c := t0) b0 b1 (fun x => 0 ≤ x ∧ x ≤ 1000000) (by decide) (by decide) (by omega)
      rw [w_ixl]
      refine ⟨_, et, ?_⟩
      simp only [w_tupE, w_bin, w_appN, w_aCons, w_aNil, var_zero, var_succ, w_ret, cst_eq, List.length_cons, List.length_nil, w_lstE]
      refine ⟨trivial, pen_take p4 (by omega) (by decide) fun k0 h5 c0 c1 p5 => ?_⟩
      simp only [w_mkL, plain_cons, plain_nil, Option.map_some, Option.some.injEq, exists_eq_left', List.length_cons, List.length_nil]
      refine ⟨l3, trivial, pen_take p5 (by omega) (by decide) fun i2 h6 d0 d1 p6 => ?_⟩
      obtain ⟨k, hk, ek⟩ := pick3 (a := 0) (b := 199) (c := k0) d0 d1 (fun x => 0 ≤ x ∧ x ≤ 199) (by decide) (by decide) (by omega)
      rw [w_ixl]
      refine ⟨_, ek, ?_⟩
      simp only [w_mkT, tupD, plain_cons, plain_nil, Option.map_some, List.length_cons, List.length_nil]
      refine ⟨l3, trivial, pen_take p6 (by omega) (by decide) fun at_ h7 e0 e1 p7 => ?_⟩
      refine ⟨trivial, odd_w p7 (by omega) fun odd far h8 f0 f1 ho p8 => ?_⟩
      obtain ⟨n1, n2, n3, n4⟩ := odd_ok f0 f1 odd ho
      have p9 : Pen (N + 30) [] h8 := p8.le (by omega)
      clear p2 p3 p4 p5 p6 p7 p8 pN ho et ek
      have hb : ∃ bent, (bent = [odd, .str z1, .int k] ∨ bent = [.int t, odd, .int k] ∨ bent = [.int t, .str z1, odd]) ∧ cutP [PyData.int t, .str z1, .int k] none (some at_) ++ [odd] ++ cutP [PyData.int t, .str z1, .int k] (some (at_ + 1)) none = bent ∧ (cutP [PyData.int t, .str z1, .int k] none (some at_)).length + 1 ≤ 3 ∧ (cutP [PyData.int t, .str z1, .int k] none (some at_) ++ [odd]).length + (cutP [PyData.int t, .str z1, .int k] (some (at_ + 1)) none).length ≤ 3 := by
        have : at_ = 0 ∨ at_ = 1 ∨ at_ = 2 := by omega
        rcases this with rfl | rfl | rfl
        · exact ⟨_, .inl rfl, rfl, Nat.le_of_ble_eq_true rfl, Nat.le_refl _⟩
        · exact ⟨_, .inr (.inl rfl), rfl, Nat.le_of_ble_eq_true rfl, Nat.le_refl _⟩
        · exact ⟨_, .inr (.inr rfl), rfl, Nat.le_of_ble_eq_true rfl, Nat.le_refl _⟩
      obtain ⟨bent, hbent, eb, q1, q2⟩ := hb
      simp only [w_slcE, w_partN, w_partE, w_bin, var_zero, var_succ, w_ret, cst_eq, isI_i, rd1_p, rd2_p, slcP_t, addP_t, addP_i, w_tupE, w_aCons, w_aNil, w_mkT, tupD, plain_cons, plain_nil, Option.map_some, List.length_cons, List.length_nil, w_chk, eb]
      refine ⟨l1, Nat.le_trans q1 l3, Nat.le_trans q2 l3, ?_⟩
      simp only [w_for, w_itL, w_lstE, w_slcE, w_partN, w_partE, w_app, w_bin, w_one, listOf_t, var_zero, var_succ, w_ret, cst_eq, isI_i, rd1_p, rd2_p, slcP_t, addP_t, addP_i, w_tupE, w_aCons, w_aNil, w_mkT, w_mkL, tupD, plain_cons, plain_nil, Option.map_some, List.length_cons, List.length_nil, w_chk, Option.some.injEq, exists_eq_left', isL_l]
      refine ⟨l1, l4, l1, l8, ?_⟩
      have wz := word7_isWord g1
      have xt : NX 0 50 (.int t) := nx_int (by omega)
      have xk : NX 0 50 (.int k) := nx_int (by omega)
      have xz : NX 0 50 (.str z1) := nx_word g1
      have x0 : NX 0 50 (.int 0) := nx_int (by decide)
      have xgood : ∀ x ∈ [PyData.int t, .str z1, .int k], NX 0 50 x := by
        intro x hx
        simp only [List.mem_cons, List.not_mem_nil, or_false] at hx
        rcases hx with rfl | rfl | rfl
        · exact xt
        · exact xz
        · exact xk
      have fint : ∀ i : Int, fine (.int i) = true := fun _ => rfl
      have Tgood : thing (.tuple [.int t, .str z1, .int k]) := ⟨rfl, by simp only [fineT, List.all_cons, List.all_nil, List.cons_append, List.nil_append, n2, wz.2, fint, Bool.and_self], okShow_of (nx_tup xgood) (by decide) (Nat.le_of_ble_eq_true rfl) (by intro q; simp [PyData.hasDict, PyData.hasDictAll] at q)⟩
      have Tall : ∀ d ∈ List.map D.p [PyData.tuple [PyData.int t, PyData.str z1, PyData.int k], PyData.tuple bent, PyData.list [PyData.int t, PyData.str z1, PyData.int k],
          PyData.tuple (cutP [PyData.int t, PyData.str z1, PyData.int k] none (some 2)), PyData.tuple ([PyData.int t, PyData.str z1, PyData.int k] ++ [PyData.int 0]), odd,
          PyData.tuple [PyData.tuple [PyData.int t, PyData.str z1, PyData.int k]], PyData.tuple [PyData.int t, PyData.str z1, PyData.int k]], ∃ x, d = .p x ∧ thing x := by
        intro d hd
        obtain ⟨x, hx, rfl⟩ := List.mem_map.mp hd
        refine ⟨x, rfl, ?_⟩
        simp only [List.mem_cons, List.not_mem_nil, or_false] at hx
        rcases hx with rfl | rfl | rfl | rfl | rfl | rfl | rfl | rfl
        · exact Tgood
        · have y1 : ∀ x ∈ bent, NX 1 250 x := by
            intro x hx
            rcases hbent with rfl | rfl | rfl
            all_goals
              simp only [List.mem_cons, List.not_mem_nil, or_false] at hx
              rcases hx with rfl | rfl | rfl
              all_goals first | exact n1 | exact xt.le (by decide) (by decide) | exact xz.le (by decide) (by decide) | exact xk.le (by decide) (by decide)
          have y2 : bent.length = 3 := by rcases hbent with rfl | rfl | rfl <;> rfl
          refine ⟨rfl, ?_, okShow_of (nx_tup y1) (by decide) (by rw [y2]; decide) ?_⟩
          · rcases hbent with rfl | rfl | rfl <;> simp only [fineT, List.all_cons, List.all_nil, n2, wz.2, fint, Bool.and_self]
          · rcases hbent with rfl | rfl | rfl
            all_goals
              intro q
              simp [PyData.hasDict, PyData.hasDictAll] at q
              simp [hasList, hasListAll, n4 q]
        · exact ⟨rfl, rfl, okShow_of (nx_lst xgood) (by decide) (Nat.le_of_ble_eq_true rfl) (by intro q; simp [PyData.hasDict, PyData.hasDictAll] at q)⟩
        · have e2 : cutP [PyData.int t, PyData.str z1, PyData.int k] none (some 2) = [.int t, .str z1] := rfl
          rw [e2]
          exact ⟨rfl, by simp only [fineT, List.all_cons, List.all_nil, List.cons_append, List.nil_append, n2, wz.2, fint, Bool.and_self], okShow_of (nx_tup (xs := [.int t, .str z1]) (d := 0) (w := 50) fun x hx => xgood x (by simp only [List.mem_cons, List.not_mem_nil, or_false] at hx ⊢; exact hx.elim .inl fun z => .inr (.inl z))) (by decide) (Nat.le_of_ble_eq_true rfl) (by intro q; simp [PyData.hasDict, PyData.hasDictAll] at q)⟩
        · refine ⟨rfl, by simp only [fineT, List.all_cons, List.all_nil, List.cons_append, List.nil_append, n2, wz.2, fint, Bool.and_self], okShow_of (nx_tup (xs := [.int t, .str z1, .int k] ++ [.int 0]) (d := 0) (w := 50) fun x hx => ?_) (by decide) (Nat.le_of_ble_eq_true rfl) (by intro q; simp [PyData.hasDict, PyData.hasDictAll] at q)⟩
          rcases List.mem_append.mp hx with hx | hx
          · exact xgood x hx
          · rw [List.mem_singleton] at hx; subst hx; exact x0
        · exact ⟨n2, n3, okShow_of n1 (by decide) (by decide) n4⟩
        · refine ⟨rfl, rfl, okShow_of (nx_tup (xs := [.tuple [.int t, .str z1, .int k]]) (d := 1) (w := 153) fun x hx => ?_) (by decide) (Nat.le_of_ble_eq_true rfl) (by intro q; simp [PyData.hasDict, PyData.hasDictAll] at q)⟩
          rw [List.mem_singleton] at hx
          subst hx
          exact nx_tup xgood
        · exact Tgood
      refine w_forI (fun ds' μ h => h = h8 ∧ (∀ d ∈ ds', ∃ x, d = .p x ∧ thing x) ∧ ∃ o9 o10 o11 o12, μ = [some s, some (D.cell 0), some d, some (D.p (PyData.str z1)), some (D.p (PyData.int t)),
        some (D.p (PyData.tuple [PyData.int t, PyData.str z1, PyData.int k])), some (D.p (PyData.int at_)), some (D.p odd), some (D.p (PyData.tuple bent)), o9, o10, o11, o12]) ?_ ?_ _ _ _ ⟨rfl, Tall, _, _, _, _, rfl⟩
      · rintro μ h ⟨rfl, _, o9, o10, o11, o12, rfl⟩
        simp only [nxt_nx, w_seq, w_for, w_itL, w_lstE, w_appN, w_bin, w_aCons, w_aNil, var_zero, var_succ, w_ret, cst_eq, rd2_p, powP_i, addP_i, w_chk, x6, List.length_cons, List.length_nil]
        refine ⟨by decide, trivial, pen_take p9 (by omega) (by decide) fun v h9 v0 v1 p10 => ?_⟩
        simp only [w_mkL, plain_cons, plain_nil, Option.map_some, List.length_cons, List.length_nil, Option.some.injEq, exists_eq_left', isL_l, rd2_p, addP_i, w_ret]
        refine ⟨l3, ?_⟩
        have hp : Pen (60 * (12 - (ds.length : Int))) [] h9 := p10.le (by omega)
        have hst : isStampB (.tuple [.int t, .str z1, .int k]) = true := by
          simp only [isStampB, wz.1, isWholeB]
          simp only [Bool.and_true, Bool.and_eq_true, decide_eq_true_eq]
          omega
        simp [w_for_cons, w_for_nil, gNm, time_w, whole_w2, tyP, isiT, twoS, shaped_bool, PyData.eqv, stamp_w Tgood.2.1, hst, isBD_b, hp]
        omega
      · rintro x' ds' μ h ⟨rfl, Hd, o9, o10, o11, o12, rfl⟩
        obtain ⟨x, rfl, hx1, hx2, hx3⟩ := Hd x' (List.mem_cons_self ..)
        have Hd' : ∀ d ∈ ds', ∃ x, d = .p x ∧ thing x := fun d hd => Hd d (List.mem_cons_of_mem _ hd)
        refine ⟨_, rfl, ?_⟩
        simp only [w_seq, w_seti, w_app, w_aCons, w_aNil, var_zero, var_succ, w_ret, w_one, w_reprP, List.set_cons_succ, List.set_cons_zero]
        refine ⟨hx3, ?_⟩
        simp only [nxt_nx, w_seq, w_for, w_itL, w_lstE, w_tupE, w_appN, w_aCons, w_aNil, var_zero, var_succ, w_ret, stamp_w hx2, stamp_w2 hx2, hand_w hx1, word_w2 hx1, w_mkT, tupD, plain_cons, plain_nil, Option.map_some, List.length_cons, List.length_nil, w_mkL, Option.some.injEq, exists_eq_left', isL_l]
        refine ⟨trivial, trivial, l2, trivial, trivial, l2, l2, ?_⟩
        simp [w_for_cons, w_for_nil, gTp, itemsT, gCn, gNm, gNl, time_w, whole_w2, tyP, isiT, twoS, shaped_bool, PyData.eqv, isBD_b, hx3]
        cases isWholeB 0 1000000 x
        · simpa using Hd'
        · simpa using Hd'
theorem law_true (ns : List Int) (h : ns.length ≤ 63) : ∃ h', (MP.nox ∘ G.F0_law) [.p (.list (ns.map .int))] [] = .ok (.p (.bool true)) h' := by
  obtain ⟨d, h', e, rfl⟩ := w_noxc.mpr (law_w h)
  exact ⟨h', e⟩
end G
open PySem PySem.W PyProof.Rows
set_option maxHeartbeats 0 in
theorem PySem.Challenge.cw_sheethouse_k01_times_hands_and_stamps_holds : PySem.Challenge.rw_sheethouse_k01_times_hands_and_stamps.Holds := by
  w_on; o_law; k_head; (case hw => w_witness2)
  k_fill
  refine MP.law_end (l := PySem.Challenge.rw_sheethouse_k01_times_hands_and_stamps) (n := 63) (k := 4) (x := "_law_script") (F := MP.nox ∘ G.F0_law) rfl (by decide) rfl ⟨rfl, by decide, by decide⟩ (fun w h Y => PySem.W.kIn_of Y) ?F G.law_true
  case F =>
    intro w mg fa h KX GX hmg
    refine' G.all_mk KX GX hmg ?a_is_whole ?l_is_whole ?c_is_whole ?k_is_whole ?a_is_word ?l_is_word ?c_is_word ?k_is_word ?a_is_hand ?l_is_hand ?c_is_hand ?k_is_hand ?a_is_time ?l_is_time ?c_is_time ?k_is_time ?a_is_stamp ?l_is_stamp ?c_is_stamp ?k_is_stamp ?a_law_pen ?l_law_pen ?c_law_pen ?k_law_pen ?a_law_take ?l_law_take ?c_law_take ?k_law_take ?a_law_words ?l_law_words ?c_law_words ?k_law_words ?a_law_is_word ?l_law_is_word ?c_law_is_word ?k_law_is_word ?a_law_whole ?l_law_whole ?c_law_whole ?k_law_whole ?a_law_is_stamp ?l_law_is_stamp ?c_law_is_stamp ?k_law_is_stamp ?a_law_odd ?l_law_odd ?c_law_odd ?k_law_odd ?a_law ?l_law ?c_law ?k_law ?m_int ?m_isinstance ?m_bool ?m_str ?m_len ?m_all ?m_tuple ?m_abs ?m_range ?m_list ?m_repr ?g_LONGEST ?g_LETTERS ?g_LAST_TIME ?g_MOST_DEEDS
    (case a_is_whole => k_is)
    (case l_is_whole => k_is)
    (case c_is_whole => k_is)
    (case k_is_whole => k_is)
    (case a_is_word => k_is)
    (case l_is_word => k_is)
    (case c_is_word => k_is)
    (case k_is_word => k_is)
    (case a_is_hand => k_is)
    (case l_is_hand => k_is)
    (case c_is_hand => k_is)
    (case k_is_hand => k_is)
    (case a_is_time => k_is)
    (case l_is_time => k_is)
    (case c_is_time => k_is)
    (case k_is_time => k_is)
    (case a_is_stamp => k_is)
    (case l_is_stamp => k_is)
    (case c_is_stamp => k_is)
    (case k_is_stamp => k_is)
    (case a_law_pen => k_is)
    (case l_law_pen => k_is)
    (case c_law_pen => k_is)
    (case k_law_pen => k_is)
    (case a_law_take => k_is)
    (case l_law_take => k_is)
    (case c_law_take => k_is)
    (case k_law_take => k_is)
    (case a_law_words => k_is)
    (case l_law_words => k_is)
    (case c_law_words => k_is)
    (case k_law_words => k_is)
    (case a_law_is_word => k_is)
    (case l_law_is_word => k_is)
    (case c_law_is_word => k_is)
    (case k_law_is_word => k_is)
    (case a_law_whole => k_is)
    (case l_law_whole => k_is)
    (case c_law_whole => k_is)
    (case k_law_whole => k_is)
    (case a_law_is_stamp => k_is)
    (case l_law_is_stamp => k_is)
    (case c_law_is_stamp => k_is)
    (case k_law_is_stamp => k_is)
    (case a_law_odd => k_is)
    (case l_law_odd => k_is)
    (case c_law_odd => k_is)
    (case k_law_odd => k_is)
    (case a_law => k_is)
    (case l_law => k_is)
    (case c_law => k_is)
    (case k_law => k_is)
    (case m_int => k_is)
    (case m_isinstance => k_is)
    (case m_bool => k_is)
    (case m_str => k_is)
    (case m_len => k_is)
    (case m_all => k_is)
    (case m_tuple => k_is)
    (case m_abs => k_is)
    (case m_range => k_is)
    (case m_list => k_is)
    (case m_repr => k_is)
    (case g_LONGEST => k_is)
    (case g_LETTERS => k_is)
    (case g_LAST_TIME => k_is)
    (case g_MOST_DEEDS => k_is)
