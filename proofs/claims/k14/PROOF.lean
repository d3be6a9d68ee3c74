import PyProof.Rows.All
import HandS.ForMost
import KE.KDictKeyed
import HandS.Wide
import HandS.TupAny
import HandS.IsInst
import HandS.Flow
import HandS.Conv
import HandS.Style
import HandS.Deep
import HandS.TupLen
import HandS.RaiseMore
import PyProof.CallFns
import PyProof.ReprRoads
import HandS.Comp
import HandS.Iter
import HandS.Text
import HandS.Ends
import KE.KUnpack
import KE.KUnpackStar
import HandS.More
import KE.SortCalls
import KE.SortKeyed
import KE.DataCmp
import HandS.Flt
import HandS.Zip
import HandS.FStr
import KE.KDictSum
import KE.KDictWalk
import HandS.DictTup
import HandS.ListItems
import KE.GoesEnum
import HandS.Rev
import HandS.DictComp
import KE.KEqDict
import Wide.All
import OpenK.AllK
import Wide.FinOn
import KE.SortData
import KE.DatumOrd
import PySem.Challenge.RW_sheethouse_k14_undone_deeds_told
set_option Elab.async false
set_option linter.all false
set_option maxRecDepth 100000
set_option maxHeartbeats 4000000
/-! MP0: mini values, mini heap, what stands for what. -/
namespace MP
open PySem PySem.Spec PyProof.Rows L2

/-- a mini value: plain data; a mutable cell by its number; a tuple that holds such; a thing of the module by its name; a built-in class -/
inductive D where
  | p (x : PyData)
  | cell (n : Nat)
  | mix (xs : List D)
  | glob (x : Str)
  | ty (n : String)
  | fob (cls : Str) (fs : List (Str × D))

/-- what stands in a cell -/
inductive C where
  | lst (xs : List D)
  | dct (t : Bool) (kvs : List (PyData × D))
  | obj (cls : Str) (fs : List (Str × D))

abbrev Hm := List C

structure Exn where
  cls : Str
  fld : Option (Str × D)

inductive R (α : Type) where
  | ok (a : α) (h : Hm)
  | exc (e : Exn) (h : Hm)
  | bad

abbrev M (α : Type) := Hm → R α
abbrev Ev := List (Option D)

def ret {α : Type} (a : α) : M α := fun h => .ok a h
def bad {α : Type} : M α := fun _ => .bad
def bnd {α β : Type} (f : M α) (g : α → M β) : M β := fun h => match f h with
  | .ok a h' => g a h'
  | .exc e h' => .exc e h'
  | .bad => .bad

/-- the addresses of the cells, and those of lists that are being made -/
structure Mm where
  c : List Addr
  v : List Addr
instance : Membership Addr Mm := ⟨fun m a => a ∈ m.c ∨ a ∈ m.v⟩
def Mm.push (m : Mm) (p : Addr) : Mm := ⟨m.c ++ [p], m.v⟩
def Mm.hide (m : Mm) (p : Addr) : Mm := ⟨m.c, p :: m.v⟩
theorem Mm.mem_c {m : Mm} {a : Addr} (h : a ∈ m.c) : a ∈ m := Or.inl h
theorem Mm.notc {m : Mm} {a : Addr} (h : a ∉ m) : a ∉ m.c := fun z => h (Or.inl z)

/-! ### frozen things -/
def keyP : Key → PyData
  | .inl i => .int i
  | .inr x => .str x
def FzT (K : PySem.W.Frag) (m : Mm) (H : Hp) (a : Addr) (vs : List V) : Prop :=
  (H a = some (.tup vs) ∧ a ∉ m) ∨ (SqT K (fun _ => none) a vs ∧ ∀ i, V.int i ∉ vs)
def FzL (K : PySem.W.Frag) (m : Mm) (H : Hp) (a : Addr) (vs : List V) : Prop :=
  (Rd H a (.lst vs) ∧ a ∉ m) ∨ SqL K (fun _ => none) a vs
/-- an entry of a dict whose keys are tuples, of any depth -/
def entN (w : World) (x : NestedKey × Addr × Value) : DictEntry := ⟨x.1.hash w, .ref x.2.1, x.2.2⟩
def DRaw (w : World) (a : Addr) (xs : List (NestedKey × Addr × Value)) (ep : Nat) (h : Heap) : Prop :=
  ∃ o es, h.get? a = some o ∧ o.ExactDict ∧ o.data = .dict es ep ∧ es.toList = xs.map (entN w)
structure DN (w : World) (H : Hp) (a : Addr) (xs : List (NestedKey × Addr × Value)) : Prop where
  sys : (a == sysModules) = false
  sz : xs.length ≤ sizeLine
  at_ : ∃ ep, H a = some (.ext (DRaw w a xs ep))
  nd : (xs.map (·.1)).Nodup
  dep : ∀ x ∈ xs, x.1.depth ≤ 8
def keysV (xs : List (NestedKey × Addr × Value)) : List V := xs.map fun x => V.ref x.2.1
def keysD (xs : List (NestedKey × Addr × Value)) : List PyData := xs.map fun x => x.1.data
def FzD (w : World) (m : Mm) (H : Hp) (a : Addr) (ks : List PyData) (kv : List V) (vs : List V) : Prop :=
  a ∉ m ∧ ((∃ kk : List (Key × V), kk ≠ [] ∧ H a = some (.dK kk) ∧ kk.map (fun p => keyP p.1) = ks ∧ kk.map (·.2) = vs) ∨
    ∃ xs, DN w H a xs ∧ keysD xs = ks ∧ keysV xs = kv ∧ Vals vs (xs.map (·.2.2)))

theorem FzT.sq {K : PySem.W.Frag} {m : Mm} {H : Hp} {a : Addr} {vs : List V} (h : FzT K m H a vs) : SqT K H a vs := by
  rcases h with ⟨h, _⟩ | ⟨h, _⟩
  · exact .inl (.inl h)
  · rcases h with (h | ⟨o, h⟩) | h
    · cases h
    · cases h
    · exact .inr h
theorem FzL.sq {K : PySem.W.Frag} {m : Mm} {H : Hp} {a : Addr} {vs : List V} (h : FzL K m H a vs) : SqL K H a vs := by
  rcases h with ⟨h, _⟩ | h
  · exact .inl h
  · rcases h with (h | ⟨o, h⟩) | h
    · cases h
    · cases h
    · exact .inr h

/-- the tracked heap has grown: what stood outside the cells stands, the cells' addresses are as they were, new ones were free -/
structure Ext (m : Mm) (H : Hp) (m' : Mm) (H' : Hp) : Prop where
  pre : ∃ t, m'.c = m.c ++ t ∧ ∀ a ∈ t, H a = none
  same : m'.v = m.v
  keep : ∀ a o, H a = some o → a ∉ m.c → H' a = some o

theorem Ext.refl {m : Mm} {H : Hp} : Ext m H m H := ⟨⟨[], by simp, by simp⟩, rfl, fun _ _ h _ => h⟩
theorem Ext.outc {m m' : Mm} {H H' : Hp} (E : Ext m H m' H') {a : Addr} {o : HO} (h : H a = some o) (n : a ∉ m.c) : a ∉ m'.c := by
  obtain ⟨t, e, ht⟩ := E.pre
  intro hm
  rw [e] at hm
  rcases List.mem_append.mp hm with q | q
  · exact n q
  · rw [ht a q] at h; cases h
theorem Ext.out {m m' : Mm} {H H' : Hp} (E : Ext m H m' H') {a : Addr} {o : HO} (h : H a = some o) (n : a ∉ m) : a ∉ m' := by
  rintro (q | q)
  · exact E.outc h (Mm.notc n) q
  · rw [E.same] at q
    exact n (Or.inr q)
theorem Ext.free {m m' : Mm} {H H' : Hp} (E : Ext m H m' H') {a : Addr} (hm : a ∉ m.c) (h : H' a = none) : H a = none := by
  cases q : H a with
  | none => rfl
  | some o => rw [E.keep a o q hm] at h; cases h
theorem Ext.trans {m m1 m2 : Mm} {H H1 H2 : Hp} (E : Ext m H m1 H1) (F : Ext m1 H1 m2 H2) (hin : ∀ a ∈ m.c, (H1 a).isSome = true) : Ext m H m2 H2 := by
  obtain ⟨t, e1, ht⟩ := E.pre
  obtain ⟨u, e2, hu⟩ := F.pre
  refine ⟨⟨t ++ u, by rw [e2, e1, List.append_assoc], fun a ha => ?_⟩, F.same.trans E.same, fun a o h n => F.keep a o (E.keep a o h n) (E.outc h n)⟩
  rcases List.mem_append.mp ha with q | q
  · exact ht a q
  · have h1 := hu a q
    by_cases hm : a ∈ m.c
    · have := hin a hm
      rw [h1] at this; cases this
    · exact E.free hm h1
theorem Ext.at {m m' : Mm} {H H' : Hp} (E : Ext m H m' H') {n : Nat} {a : Addr} (h : m.c[n]? = some a) : m'.c[n]? = some a := by
  obtain ⟨t, e, _⟩ := E.pre
  have hl : n < m.c.length := by
    rcases Nat.lt_or_ge n m.c.length with q | q
    · exact q
    · rw [List.getElem?_eq_none_iff.mpr q] at h; cases h
  rw [e, List.getElem?_append_left hl]
  exact h
theorem Ext.rd {m m' : Mm} {H H' : Hp} (E : Ext m H m' H') {a : Addr} {u : HO} (h : H a = some u ∧ a ∉ m) : H' a = some u ∧ a ∉ m' := ⟨E.keep _ _ h.1 (Mm.notc h.2), E.out h.1 h.2⟩
/-- all that is frozen stays so -/
structure Mov (m : Mm) (H : Hp) (m' : Mm) (H' : Hp) : Prop where
  at_ : ∀ (n : Nat) a, m.c[n]? = some a → m'.c[n]? = some a
  rd : ∀ a u, H a = some u → a ∉ m → H' a = some u ∧ a ∉ m'
theorem Ext.mov {m m' : Mm} {H H' : Hp} (E : Ext m H m' H') : Mov m H m' H' := ⟨fun n a h => E.at h, fun a u h n => E.rd ⟨h, n⟩⟩
theorem Mov.trans {m m1 m2 : Mm} {H H1 H2 : Hp} (E : Mov m H m1 H1) (F : Mov m1 H1 m2 H2) : Mov m H m2 H2 := ⟨fun n a h => F.at_ n a (E.at_ n a h), fun a u h n => let ⟨h1, n1⟩ := E.rd a u h n; F.rd a u h1 n1⟩
theorem Mov.hide {m : Mm} {H : Hp} {p : Addr} {o : HO} (hp : H p = none) : Mov m H (m.hide p) (upd H p o) :=
  ⟨fun n a h => h, fun a u h n => by
    have hne : a ≠ p := by
      rintro rfl
      rw [hp] at h; cases h
    refine ⟨by rw [upd_ne hne]; exact h, ?_⟩
    · rintro (z | z)
      · exact n (Or.inl z)
      · rcases List.mem_cons.mp z with z | z
        · exact hne z
        · exact n (Or.inr z)⟩
theorem Mov.show {m : Mm} {H : Hp} {p : Addr} : Mov (m.hide p) H m H :=
  ⟨fun n a h => h, fun a u h n => ⟨h, fun z => n (z.imp id fun z => List.mem_cons_of_mem _ z)⟩⟩
theorem Mov.priv {m : Mm} {H : Hp} {p : Addr} {o : HO} (hp : p ∈ m.v) : Mov m H m (upd H p o) :=
  ⟨fun n a h => h, fun a u h n => by
    have hne : a ≠ p := by
      rintro rfl
      exact n (Or.inr hp)
    exact ⟨by rw [upd_ne hne]; exact h, n⟩⟩
abbrev Fro (m : Mm) (H : Hp) (m' : Mm) (H' : Hp) : Prop := ∀ a u, H a = some u → a ∉ m → H' a = some u ∧ a ∉ m'
theorem FzT.fro {K : PySem.W.Frag} {m m' : Mm} {H H' : Hp} {a : Addr} {vs : List V} (E : Fro m H m' H') (h : FzT K m H a vs) : FzT K m' H' a vs := h.imp (fun z => E _ _ z.1 z.2) id
theorem FzL.fro {K : PySem.W.Frag} {m m' : Mm} {H H' : Hp} {a : Addr} {vs : List V} (E : Fro m H m' H') (h : FzL K m H a vs) : FzL K m' H' a vs := h.imp (fun ⟨r, n⟩ => r.elim (fun r => let ⟨x, y⟩ := E _ _ r n; ⟨.inl x, y⟩) fun ⟨o, r⟩ => let ⟨x, y⟩ := E _ _ r n; ⟨.inr ⟨o, x⟩, y⟩) id
theorem FzD.fro {w : World} {m m' : Mm} {H H' : Hp} {a : Addr} {ks : List PyData} {kv vs : List V} (E : Fro m H m' H') (h : FzD w m H a ks kv vs) : FzD w m' H' a ks kv vs := by
  obtain ⟨n, h⟩ := h
  rcases h with ⟨kk, k0, r, q⟩ | ⟨xs, ⟨h1, h2, ⟨ep, r⟩, h4, h5⟩, q⟩
  · obtain ⟨r', n'⟩ := E _ _ r n
    exact ⟨n', .inl ⟨kk, k0, r', q⟩⟩
  · obtain ⟨r', n'⟩ := E _ _ r n
    exact ⟨n', .inr ⟨xs, ⟨h1, h2, ⟨ep, r'⟩, h4, h5⟩, q⟩⟩

/-! ### plain data -/
mutual
def RepP (w : World) (K : PySem.W.Frag) (m : Mm) (H : Hp) : PyData → V → Prop
  | .none, v => v = .non
  | .bool b, v => v = .bl b
  | .int i, v => v = .int i
  | .str x, v => v = .str x
  | .list xs, v => ∃ a vs, v = .ref a ∧ FzL K m H a vs ∧ RepPs w K m H xs vs
  | .tuple xs, v => ∃ a vs, v = .ref a ∧ FzT K m H a vs ∧ RepPs w K m H xs vs
  | .dict kvs, v => ∃ a ks vs, v = .ref a ∧ FzD w m H a (kvs.map (·.1)) ks vs ∧ RepKs w K m H kvs ks ∧ RepVs w K m H kvs vs
def RepPs (w : World) (K : PySem.W.Frag) (m : Mm) (H : Hp) : List PyData → List V → Prop
  | [], vs => vs = []
  | d :: ds, vs => ∃ v r, vs = v :: r ∧ RepP w K m H d v ∧ RepPs w K m H ds r
def RepKs (w : World) (K : PySem.W.Frag) (m : Mm) (H : Hp) : List (PyData × PyData) → List V → Prop
  | [], vs => vs = []
  | (d, _) :: ds, vs => ∃ v r, vs = v :: r ∧ RepP w K m H d v ∧ RepKs w K m H ds r
def RepVs (w : World) (K : PySem.W.Frag) (m : Mm) (H : Hp) : List (PyData × PyData) → List V → Prop
  | [], vs => vs = []
  | (_, d) :: ds, vs => ∃ v r, vs = v :: r ∧ RepP w K m H d v ∧ RepVs w K m H ds r
end
section
variable {K : PySem.W.Frag} {m m' : Mm} {H H' : Hp}
mutual
theorem RepP.fro (E : Fro m H m' H') : ∀ (d : PyData) (v : V), RepP w K m H d v → RepP w K m' H' d v
  | .none, _, h => by simpa only [RepP] using h
  | .bool _, _, h => by simpa only [RepP] using h
  | .int _, _, h => by simpa only [RepP] using h
  | .str _, _, h => by simpa only [RepP] using h
  | .list xs, v, h => by
    simp only [RepP] at h ⊢
    obtain ⟨a, vs, e, f, r⟩ := h
    exact ⟨a, vs, e, f.fro E, RepPs.fro E xs vs r⟩
  | .tuple xs, v, h => by
    simp only [RepP] at h ⊢
    obtain ⟨a, vs, e, f, r⟩ := h
    exact ⟨a, vs, e, f.fro E, RepPs.fro E xs vs r⟩
  | .dict kvs, v, h => by
    simp only [RepP] at h ⊢
    obtain ⟨a, ks, vs, e, f, k, r⟩ := h
    exact ⟨a, ks, vs, e, f.fro E, RepKs.fro E kvs ks k, RepVs.fro E kvs vs r⟩
theorem RepPs.fro (E : Fro m H m' H') : ∀ (ds : List PyData) (vs : List V), RepPs w K m H ds vs → RepPs w K m' H' ds vs
  | [], _, h => by simpa only [RepPs] using h
  | d :: ds, vs, h => by
    simp only [RepPs] at h ⊢
    obtain ⟨v, r, e, h1, h2⟩ := h
    exact ⟨v, r, e, RepP.fro E d v h1, RepPs.fro E ds r h2⟩
theorem RepKs.fro (E : Fro m H m' H') : ∀ (ds : List (PyData × PyData)) (vs : List V), RepKs w K m H ds vs → RepKs w K m' H' ds vs
  | [], _, h => by simpa only [RepKs] using h
  | (d, k) :: ds, vs, h => by
    simp only [RepKs] at h ⊢
    obtain ⟨v, r, e, h1, h2⟩ := h
    exact ⟨v, r, e, RepP.fro E d v h1, RepKs.fro E ds r h2⟩
theorem RepVs.fro (E : Fro m H m' H') : ∀ (ds : List (PyData × PyData)) (vs : List V), RepVs w K m H ds vs → RepVs w K m' H' ds vs
  | [], _, h => by simpa only [RepVs] using h
  | (k, d) :: ds, vs, h => by
    simp only [RepVs] at h ⊢
    obtain ⟨v, r, e, h1, h2⟩ := h
    exact ⟨v, r, e, RepP.fro E d v h1, RepVs.fro E ds r h2⟩
end
end
section
variable {K : PySem.W.Frag} {m m' : Mm} {H H' : Hp}
theorem FzT.mov {a : Addr} {vs : List V} (E : Mov m H m' H') (h : FzT K m H a vs) : FzT K m' H' a vs := h.fro E.rd
theorem FzL.mov {a : Addr} {vs : List V} (E : Mov m H m' H') (h : FzL K m H a vs) : FzL K m' H' a vs := h.fro E.rd
theorem RepP.mov (E : Mov m H m' H') (d : PyData) (v : V) (h : RepP w K m H d v) : RepP w K m' H' d v := RepP.fro E.rd d v h
theorem RepPs.mov (E : Mov m H m' H') (d : List PyData) (v : List V) (h : RepPs w K m H d v) : RepPs w K m' H' d v := RepPs.fro E.rd d v h
end

/-! ### mini values -/
mutual
def Rep (w : World) (K : PySem.W.Frag) (mg : Str → Option Value) (m : Mm) (H : Hp) : D → V → Prop
  | .p x, v => RepP w K m H x v
  | .cell n, v => ∃ a, v = .ref a ∧ m.c[n]? = some a
  | .mix xs, v => ∃ a vs, v = .ref a ∧ FzT K m H a vs ∧ RepA w K mg m H xs vs
  | .glob x, v => ∃ a, v = .ref a ∧ mg x = some (.ref a)
  | .ty n, v => v = .ty n
  | .fob cls fs, v => ∃ a c dx gs, v = .ref a ∧ mg cls = some (.ref c) ∧ (H a = some (.ins c dx gs) ∧ a ∉ m) ∧ RepF w K mg m H fs gs
def RepA (w : World) (K : PySem.W.Frag) (mg : Str → Option Value) (m : Mm) (H : Hp) : List D → List V → Prop
  | [], vs => vs = []
  | d :: ds, vs => ∃ v r, vs = v :: r ∧ Rep w K mg m H d v ∧ RepA w K mg m H ds r
def RepF (w : World) (K : PySem.W.Frag) (mg : Str → Option Value) (m : Mm) (H : Hp) : List (Str × D) → List (Str × V) → Prop
  | [], gs => gs = []
  | (x, d) :: fs, gs => ∃ v r, gs = (x, v) :: r ∧ Rep w K mg m H d v ∧ RepF w K mg m H fs r
end
section
variable {K : PySem.W.Frag} {mg : Str → Option Value} {m m' : Mm} {H H' : Hp}
mutual
theorem Rep.mov (E : Mov m H m' H') : ∀ (d : D) (v : V), Rep w K mg m H d v → Rep w K mg m' H' d v
  | .p x, v, h => by
    simp only [Rep] at h ⊢
    exact RepP.mov E x v h
  | .cell n, v, h => by
    simp only [Rep] at h ⊢
    obtain ⟨a, e, q⟩ := h
    exact ⟨a, e, E.at_ _ _ q⟩
  | .mix xs, v, h => by
    simp only [Rep] at h ⊢
    obtain ⟨a, vs, e, f, r⟩ := h
    exact ⟨a, vs, e, f.mov E, RepA.mov E xs vs r⟩
  | .glob x, v, h => by simpa only [Rep] using h
  | .ty n, v, h => by simpa only [Rep] using h
  | .fob cls fs, v, h => by
    simp only [Rep] at h ⊢
    obtain ⟨a, c, dx, gs, e, g, f, r⟩ := h
    exact ⟨a, c, dx, gs, e, g, E.rd a _ f.1 f.2, RepF.mov E fs gs r⟩
theorem RepA.mov (E : Mov m H m' H') : ∀ (ds : List D) (vs : List V), RepA w K mg m H ds vs → RepA w K mg m' H' ds vs
  | [], _, h => by simpa only [RepA] using h
  | d :: ds, vs, h => by
    simp only [RepA] at h ⊢
    obtain ⟨v, r, e, h1, h2⟩ := h
    exact ⟨v, r, e, Rep.mov E d v h1, RepA.mov E ds r h2⟩
theorem RepF.mov (E : Mov m H m' H') : ∀ (ds : List (Str × D)) (vs : List (Str × V)), RepF w K mg m H ds vs → RepF w K mg m' H' ds vs
  | [], _, h => by simpa only [RepF] using h
  | (x, d) :: ds, vs, h => by
    simp only [RepF] at h ⊢
    obtain ⟨v, r, e, h1, h2⟩ := h
    exact ⟨v, r, e, Rep.mov E d v h1, RepF.mov E ds r h2⟩
end
end

section
variable {K : PySem.W.Frag} {mg : Str → Option Value} {m m' : Mm} {H H' : Hp}
theorem FzT.mono {a : Addr} {vs : List V} (E : Ext m H m' H') (h : FzT K m H a vs) : FzT K m' H' a vs := h.mov E.mov
theorem FzL.mono {a : Addr} {vs : List V} (E : Ext m H m' H') (h : FzL K m H a vs) : FzL K m' H' a vs := h.mov E.mov
theorem RepP.mono {d : PyData} {v : V} (E : Ext m H m' H') (h : RepP w K m H d v) : RepP w K m' H' d v := RepP.mov E.mov d v h
theorem RepPs.mono {d : List PyData} {v : List V} (E : Ext m H m' H') (h : RepPs w K m H d v) : RepPs w K m' H' d v := RepPs.mov E.mov d v h
theorem Rep.mono {d : D} {v : V} (E : Ext m H m' H') (h : Rep w K mg m H d v) : Rep w K mg m' H' d v := Rep.mov E.mov d v h
theorem RepA.mono {d : List D} {v : List V} (E : Ext m H m' H') (h : RepA w K mg m H d v) : RepA w K mg m' H' d v := RepA.mov E.mov d v h
end

/-! ### the mini heap -/
def CellR (w : World) (K : PySem.W.Frag) (mg : Str → Option Value) (m : Mm) (H : Hp) (a : Addr) : C → Prop
  | .lst xs => ∃ vs, H a = some (.lst vs) ∧ RepA w K mg m H xs vs
  | .dct t kvs => ∃ vs, RepA w K mg m H (kvs.map (·.2)) vs ∧
      ((t = false ∧ ∃ kk : List (Key × V), H a = some (.dK kk) ∧ kk.map (fun p => keyP p.1) = kvs.map (·.1) ∧ kk.map (·.2) = vs) ∨
        t = true ∧ ∃ xs, DN w H a xs ∧ keysD xs = kvs.map (·.1) ∧ RepPs w K m H (kvs.map (·.1)) (keysV xs) ∧ Vals vs (xs.map (·.2.2)))
  | .obj cls fs => ∃ c dx gs, mg cls = some (.ref c) ∧ H a = some (.ins c dx gs) ∧ RepF w K mg m H fs gs
theorem CellR.some {K : PySem.W.Frag} {mg : Str → Option Value} {m : Mm} {H : Hp} {a : Addr} {c : C} (h : CellR w K mg m H a c) : (H a).isSome = true := by
  cases c with
  | lst xs => obtain ⟨vs, e, _⟩ := h; rw [e]; rfl
  | dct t kvs =>
    obtain ⟨vs, _, e⟩ := h
    rcases e with ⟨_, kk, e, _⟩ | ⟨_, xs, ⟨_, _, ⟨_, e⟩, _, _⟩, _⟩ <;> rw [e] <;> rfl
  | obj cls fs => obtain ⟨c, dx, gs, _, e, _⟩ := h; rw [e]; rfl
/-- another part of the heap changed -/
theorem CellR.mov {K : PySem.W.Frag} {mg : Str → Option Value} {m m' : Mm} {H H' : Hp} {a : Addr} {c : C} (E : Mov m H m' H') (e : H' a = H a) (h : CellR w K mg m H a c) : CellR w K mg m' H' a c := by
  cases c with
  | lst xs => obtain ⟨vs, q, r⟩ := h; exact ⟨vs, e.trans q, RepA.mov E _ _ r⟩
  | dct t kvs =>
    obtain ⟨vs, r, q⟩ := h
    refine ⟨vs, RepA.mov E _ _ r, ?_⟩
    rcases q with ⟨ht, kk, q, z⟩ | ⟨ht, xs, ⟨h1, h2, ⟨ep, q⟩, h4, h5⟩, z1, z2, z3⟩
    · exact .inl ⟨ht, kk, e.trans q, z⟩
    · exact .inr ⟨ht, xs, ⟨h1, h2, ⟨ep, e.trans q⟩, h4, h5⟩, z1, RepPs.mov E _ _ z2, z3⟩
  | obj cls fs => obtain ⟨c, dx, gs, g, q, r⟩ := h; exact ⟨c, dx, gs, g, e.trans q, RepF.mov E _ _ r⟩
theorem CellR.mono {K : PySem.W.Frag} {mg : Str → Option Value} {m m' : Mm} {H H' : Hp} {a : Addr} {c : C} (E : Ext m H m' H') (e : H' a = H a) (h : CellR w K mg m H a c) : CellR w K mg m' H' a c := h.mov E.mov e

structure Sim (w : World) (K : PySem.W.Frag) (mg : Str → Option Value) (m : Mm) (H : Hp) (h : Hm) : Prop where
  len : m.c.length = h.length
  nd : m.c.Nodup
  pv : ∀ a ∈ m.v, (H a).isSome = true ∧ a ∉ m.c
  at_ : ∀ (n : Nat) a c, m.c[n]? = some a → h[n]? = some c → CellR w K mg m H a c
section
variable {K : PySem.W.Frag} {mg : Str → Option Value} {m m' : Mm} {H H' : Hp} {h h' : Hm}
theorem Sim.isSomec (S : Sim w K mg m H h) {a : Addr} (ha : a ∈ m.c) : (H a).isSome = true := by
  obtain ⟨n, hn⟩ := List.getElem?_of_mem ha
  have hl : n < h.length := by
    rw [← S.len]
    rcases Nat.lt_or_ge n m.c.length with q | q
    · exact q
    · rw [List.getElem?_eq_none_iff.mpr q] at hn; cases hn
  exact (S.at_ n a _ hn (List.getElem?_eq_getElem hl)).some
theorem Sim.notin (S : Sim w K mg m H h) {a : Addr} (ha : H a = none) : a ∉ m := by
  rintro (q | q)
  · have := S.isSomec q
    rw [ha] at this; cases this
  · have := (S.pv a q).1
    rw [ha] at this; cases this
/-- Ext is transitive over a good middle -/
theorem Ext.then {m2 : Mm} {H2 : Hp} (E : Ext m H m' H') (S : Sim w K mg m' H' h') (F : Ext m' H' m2 H2) : Ext m H m2 H2 :=
  E.trans F fun a ha => S.isSomec (by obtain ⟨t, e, _⟩ := E.pre; rw [e]; exact List.mem_append_left _ ha)
/-- the cell of a number -/
theorem Sim.cell (S : Sim w K mg m H h) {n : Nat} {c : C} (e : h[n]? = some c) : ∃ a, m.c[n]? = some a ∧ CellR w K mg m H a c := by
  have hl : n < m.c.length := by
    rw [S.len]
    rcases Nat.lt_or_ge n h.length with q | q
    · exact q
    · rw [List.getElem?_eq_none_iff.mpr q] at e; cases e
  exact ⟨m.c[n], List.getElem?_eq_getElem hl, S.at_ n _ c (List.getElem?_eq_getElem hl) e⟩
theorem nodup_at {l : List Addr} (nd : l.Nodup) {i j : Nat} {a : Addr} (hi : l[i]? = some a) (hj : l[j]? = some a) : i = j := by
  have li : i < l.length := by
    rcases Nat.lt_or_ge i l.length with q | q
    · exact q
    · rw [List.getElem?_eq_none_iff.mpr q] at hi; cases hi
  exact (List.getElem?_inj li nd).mp (hi.trans hj.symm)
/-- a free address gets an object that is no cell -/
theorem Ext.new {p : Addr} {o : HO} (S : Sim w K mg m H h) (hp : H p = none) : Ext m H m (upd H p o) :=
  ⟨⟨[], by simp, by simp⟩, rfl, fun a u q _ => by rw [upd_ne (ne_of_none q hp)]; exact q⟩
theorem some_upd {p a : Addr} {o : HO} (h : (H a).isSome = true) : (upd H p o a).isSome = true := by
  unfold upd
  split
  · rfl
  · exact h
theorem Sim.new {p : Addr} {o : HO} (S : Sim w K mg m H h) (hp : H p = none) : Sim w K mg m (upd H p o) h :=
  ⟨S.len, S.nd, fun a ha => ⟨some_upd (S.pv a ha).1, (S.pv a ha).2⟩, fun n a c ha hc => (S.at_ n a c ha hc).mono (Ext.new S hp) (upd_ne fun e => S.notin hp (Mm.mem_c (by rw [← e]; exact List.mem_of_getElem? ha)))⟩
/-- a free address gets a new cell -/
theorem Ext.push {p : Addr} {o : HO} (S : Sim w K mg m H h) (hp : H p = none) : Ext m H (m.push p) (upd H p o) :=
  ⟨⟨[p], rfl, fun a ha => by rw [List.mem_singleton.mp ha]; exact hp⟩, rfl, fun a u q _ => by rw [upd_ne (ne_of_none q hp)]; exact q⟩
theorem Sim.push {p : Addr} {o : HO} {c : C} (S : Sim w K mg m H h) (hp : H p = none) (hc : CellR w K mg (m.push p) (upd H p o) p c) : Sim w K mg (m.push p) (upd H p o) (h ++ [c]) := by
  refine ⟨by simp [S.len, Mm.push], List.nodup_append.mpr ⟨S.nd, by simp, fun a ha b hb e => ?_⟩, fun a ha => ⟨some_upd (S.pv a ha).1, fun z => ?_⟩, fun n a d ha hd => ?_⟩
  · rw [List.mem_singleton] at hb
    rw [e, hb] at ha
    exact S.notin hp (Mm.mem_c ha)
  · rcases List.mem_append.mp z with z | z
    · exact (S.pv a ha).2 z
    · rw [List.mem_singleton.mp z] at ha
      exact S.notin hp (Or.inr ha)
  · have ha : (m.c ++ [p])[n]? = some a := ha
    rcases Nat.lt_or_ge n m.c.length with q | q
    · rw [List.getElem?_append_left q] at ha
      rw [List.getElem?_append_left (by rw [← S.len]; exact q)] at hd
      exact (S.at_ n a d ha hd).mono (Ext.push S hp) (upd_ne fun e => S.notin hp (Mm.mem_c (by rw [← e]; exact List.mem_of_getElem? ha)))
    · rw [List.getElem?_append_right q] at ha
      rw [List.getElem?_append_right (by rw [← S.len]; exact q), ← S.len] at hd
      cases k : n - m.c.length with
      | zero =>
        rw [k] at ha hd
        simp only [List.getElem?_cons_zero, Option.some.injEq] at ha hd
        subst ha; subst hd
        exact hc
      | succ j => rw [k] at ha; simp at ha
theorem Sim.push_at {p : Addr} (S : Sim w K mg m H h) : (m.push p).c[h.length]? = some p := by
  show (m.c ++ [p])[h.length]? = some p
  rw [← S.len]
  simp
/-- a cell is written -/
theorem Ext.write {n : Nat} {a : Addr} {o : HO} (ha : m.c[n]? = some a) : Ext m H m (upd H a o) :=
  ⟨⟨[], by simp, by simp⟩, rfl, fun b u q hb => by rw [upd_ne fun e => hb (by rw [e]; exact List.mem_of_getElem? ha)]; exact q⟩
theorem Sim.write {n : Nat} {a : Addr} {o : HO} {c : C} (S : Sim w K mg m H h) (ha : m.c[n]? = some a) (hc : CellR w K mg m (upd H a o) a c) : Sim w K mg m (upd H a o) (h.set n c) := by
  refine ⟨by simp [S.len], S.nd, fun b hb => ⟨some_upd (S.pv b hb).1, (S.pv b hb).2⟩, fun j b d hb hd => ?_⟩
  by_cases e : j = n
  · subst e
    rw [ha] at hb
    cases hb
    have hl : j < h.length := by
      rw [← S.len]
      rcases Nat.lt_or_ge j m.c.length with q | q
      · exact q
      · rw [List.getElem?_eq_none_iff.mpr q] at ha; cases ha
    rw [List.getElem?_set_self hl] at hd
    cases hd
    exact hc
  · rw [List.getElem?_set_ne (fun z => e z.symm)] at hd
    exact (S.at_ j b d hb hd).mono (Ext.write ha) (upd_ne fun z => e (nodup_at S.nd (by rw [← z]; exact hb) ha))
end

section
variable {K : PySem.W.Frag} {mg : Str → Option Value} {m : Mm} {H : Hp} {h : Hm} {p : Addr}
theorem Sim.hide {o : HO} (S : Sim w K mg m H h) (hp : H p = none) : Sim w K mg (m.hide p) (upd H p o) h :=
  ⟨S.len, S.nd, fun a ha => by
    rcases List.mem_cons.mp ha with rfl | ha
    · exact ⟨by rw [upd_same]; rfl, fun z => S.notin hp (Or.inl z)⟩
    · exact ⟨some_upd (S.pv a ha).1, (S.pv a ha).2⟩, fun n a c ha hc => (S.at_ n a c ha hc).mov (Mov.hide hp) (upd_ne fun e => S.notin hp (Mm.mem_c (by rw [← e]; exact List.mem_of_getElem? ha)))⟩
theorem Sim.show (S : Sim w K mg (m.hide p) H h) : Sim w K mg m H h :=
  ⟨S.len, S.nd, fun a ha => S.pv a (List.mem_cons_of_mem _ ha), fun n a c ha hc => (S.at_ n a c ha hc).mov Mov.show rfl⟩
theorem Sim.priv {o : HO} (S : Sim w K mg m H h) (hp : p ∈ m.v) : Sim w K mg m (upd H p o) h :=
  ⟨S.len, S.nd, fun a ha => ⟨some_upd (S.pv a ha).1, (S.pv a ha).2⟩, fun n a c ha hc => (S.at_ n a c ha hc).mov (Mov.priv hp) (upd_ne fun e => (S.pv p hp).2 (by rw [← e]; exact List.mem_of_getElem? ha))⟩
end

/-! ### what is wanted behind a mini run -/
/-- an exception that lies behind: its class, its own dict -/
def ExR (w : World) (K : PySem.W.Frag) (mg : Str → Option Value) (m : Mm) (H : Hp) (e : Exn) (cv : Value) (dx : Option Addr) : Prop :=
  ∃ c, mg e.cls = some (.ref c) ∧ cv = .ref c ∧ match e.fld with
    | none => True
    | some (f, d) => ∃ a v, dx = some a ∧ H a = some (.xd [(f, v)]) ∧ Rep w K mg m H d v
/-- the surroundings: the written part, the module's names, the wish about exceptions -/
structure Tx where
  w : World
  K : PySem.W.Frag
  mg : Str → Option Value
  W : XK
def Post {α β : Type} (T : Tx) (m : Mm) (H : Hp) (rel : Mm → Hp → α → β → Prop) (r : R α) (Q : β → Hp → Prop) : Prop :=
  match r with
  | .ok a h' => ∀ m' H' b, Sim T.w T.K T.mg m' H' h' → Ext m H m' H' → rel m' H' a b → Q b H'
  | .exc e h' => ∀ m' H' cv dx, Sim T.w T.K T.mg m' H' h' → Ext m H m' H' → ExR T.w T.K T.mg m' H' e cv dx → T.W cv dx H'
  | .bad => False
theorem Post.bnd {α β γ δ : Type} {T : Tx} {m : Mm} {H : Hp} {rel : Mm → Hp → α → β → Prop} {rel' : Mm → Hp → γ → δ → Prop} {f : M α} {g : α → M γ} {h : Hm} {Q : δ → Hp → Prop} {Q' : β → Hp → Prop}
    (hp : Post T m H rel' (bnd f g h) Q) (hQ : ∀ a h' m' H' b, f h = .ok a h' → Sim T.w T.K T.mg m' H' h' → Ext m H m' H' → rel m' H' a b → Post T m' H' rel' (g a h') Q → Q' b H') : Post T m H rel (f h) Q' := by
  unfold MP.bnd at hp
  cases e : f h with
  | ok a h' =>
    rw [e] at hp
    intro m' H' b S X r
    refine hQ a h' m' H' b e S X r ?_
    have hp' : Post T m H rel' (g a h') Q := hp
    revert hp'
    cases g a h' with
    | ok c h2 => exact fun hp m2 H2 d S2 X2 r2 => hp m2 H2 d S2 (X.then S X2) r2
    | exc x h2 => exact fun hp m2 H2 cv dx S2 X2 r2 => hp m2 H2 cv dx S2 (X.then S X2) r2
    | bad => exact fun hp => hp
  | exc x h' => rw [e] at hp; exact hp
  | bad => rw [e] at hp; exact hp
theorem Post.ret {α β : Type} {T : Tx} {m : Mm} {H : Hp} {rel : Mm → Hp → α → β → Prop} {a : α} {h : Hm} {b : β} {Q : β → Hp → Prop} (hp : Post T m H rel (ret a h) Q) (S : Sim T.w T.K T.mg m H h) (r : rel m H a b) : Q b H := hp m H b S Ext.refl r
theorem Post.mono {α β γ δ : Type} {T : Tx} {m : Mm} {H : Hp} {rel : Mm → Hp → α → β → Prop} {r : R α} {Q Q' : β → Hp → Prop} (hp : Post T m H rel r Q) (h : ∀ b H', Q b H' → Q' b H') : Post T m H rel r Q' := by
  cases r with
  | ok a h' => exact fun m' H' b S X r => h _ _ (hp m' H' b S X r)
  | exc e h' => exact hp
  | bad => exact hp

/-- the slots -/
structure EnvR (w : World) (K : PySem.W.Frag) (mg : Str → Option Value) (m : Mm) (H : Hp) (μ : Ev) (σ : L2.St) : Prop where
  len : μ.length = σ.length
  at_ : ∀ (i : Nat) d, μ[i]? = some (some d) → ∃ v, σ[i]? = some (some v) ∧ Rep w K mg m H d v
theorem EnvR.mov {K : PySem.W.Frag} {mg : Str → Option Value} {m m' : Mm} {H H' : Hp} {μ : Ev} {σ : L2.St} (E : Mov m H m' H') (h : EnvR w K mg m H μ σ) : EnvR w K mg m' H' μ σ :=
  ⟨h.len, fun i d q => let ⟨v, e, r⟩ := h.at_ i d q; ⟨v, e, Rep.mov E _ _ r⟩⟩
theorem EnvR.mono {K : PySem.W.Frag} {mg : Str → Option Value} {m m' : Mm} {H H' : Hp} {μ : Ev} {σ : L2.St} (E : Ext m H m' H') (h : EnvR w K mg m H μ σ) : EnvR w K mg m' H' μ σ := h.mov E.mov
theorem EnvR.set {K : PySem.W.Frag} {mg : Str → Option Value} {m : Mm} {H : Hp} {μ : Ev} {σ : L2.St} (h : EnvR w K mg m H μ σ) {d : D} {v : V} (r : Rep w K mg m H d v) (i : Nat) : EnvR w K mg m H (μ.set i (some d)) (σ.set i (some v)) := by
  refine ⟨by simp [h.len], fun j e q => ?_⟩
  rw [List.getElem?_set] at q ⊢
  by_cases z : i = j
  · rw [if_pos z] at q ⊢
    by_cases l : i < μ.length
    · rw [if_pos l] at q
      rw [if_pos (by rw [← h.len]; exact l)]
      cases q
      exact ⟨v, rfl, r⟩
    · rw [if_neg l] at q; cases q
  · rw [if_neg z] at q ⊢
    exact h.at_ j e q
theorem EnvR.unset {K : PySem.W.Frag} {mg : Str → Option Value} {m : Mm} {H : Hp} {μ : Ev} {σ : L2.St} (h : EnvR w K mg m H μ σ) (i : Nat) : EnvR w K mg m H (μ.set i none) (σ.set i none) := by
  refine ⟨by simp [h.len], fun j e q => ?_⟩
  rw [List.getElem?_set] at q ⊢
  by_cases z : i = j
  · rw [if_pos z] at q
    by_cases l : i < μ.length
    · rw [if_pos l] at q; cases q
    · rw [if_neg l] at q; cases q
  · rw [if_neg z] at q ⊢
    exact h.at_ j e q
/-- slots forgotten on the mini side alone -/
theorem EnvR.forget {K : PySem.W.Frag} {mg : Str → Option Value} {m : Mm} {H : Hp} {μ : Ev} {σ : L2.St} (h : EnvR w K mg m H μ σ) (i : Nat) : EnvR w K mg m H (μ.set i none) σ := by
  refine ⟨by simp [h.len], fun j e q => ?_⟩
  rw [List.getElem?_set] at q
  by_cases z : i = j
  · rw [if_pos z] at q
    by_cases l : i < μ.length
    · rw [if_pos l] at q; cases q
    · rw [if_neg l] at q; cases q
  · rw [if_neg z] at q
    exact h.at_ j e q
end MP
/-! MP1: readings by mini functions; names, constants, operators, tests, displays. -/
namespace MP
open PySem PySem.Spec PyProof.Rows L2

/-! ### readings -/
abbrev RelB : Mm → Hp → Bool → Bool → Prop := fun _ _ a b => b = a
def rdE (T : Tx) (f : Ev → M D) : TE := fun σ H Q => ∃ μ m h, Sim T.w T.K T.mg m H h ∧ EnvR T.w T.K T.mg m H μ σ ∧ Post T m H (Rep T.w T.K T.mg) (f μ h) Q
def rdT (T : Tx) (f : Ev → M Bool) : TT := fun σ H Q => ∃ μ m h, Sim T.w T.K T.mg m H h ∧ EnvR T.w T.K T.mg m H μ σ ∧ Post T m H RelB (f μ h) Q
def rdA (T : Tx) (f : Ev → M (List D)) : TA := fun σ H Q => ∃ μ m h, Sim T.w T.K T.mg m H h ∧ EnvR T.w T.K T.mg m H μ σ ∧ Post T m H (RepA T.w T.K T.mg) (f μ h) Q

abbrev tx (X : Cx) (W : XK) : Tx := ⟨X.w, X.K, X.mg, W⟩
abbrev ES (X : Cx) (W : XK) (e : Expr) (f : Ev → M D) : Prop := PE X e (rdE (tx X W) f)
abbrev TsS (X : Cx) (W : XK) (e : Expr) (f : Ev → M Bool) : Prop := PT X e (rdT (tx X W) f)
abbrev AS (X : Cx) (W : XK) (es : List Expr) (f : Ev → M (List D)) : Prop := PA X es (rdA (tx X W) f)

theorem pe_imp {X : Cx} {e : Expr} {t t' : TE} (h : PE X e t) (w : ∀ σ H Q, t' σ H Q → t σ H Q) : PE X e t' := ⟨fun pins s σ H Q I q => h.run pins s σ H Q I (w σ H Q q)⟩
theorem pt_imp {X : Cx} {e : Expr} {t t' : TT} (h : PT X e t) (w : ∀ σ H Q, t' σ H Q → t σ H Q) : PT X e t' := ⟨fun pins s σ H Q I q => h.run pins s σ H Q I (w σ H Q q)⟩
theorem pa_imp {X : Cx} {e : List Expr} {t t' : TA} (h : PA X e t) (w : ∀ σ H Q, t' σ H Q → t σ H Q) : PA X e t' := ⟨fun pos pins s σ H Q I q => h.run pos pins s σ H Q I (w σ H Q q)⟩
theorem ps_imp {X : Cx} {e : Stmt} {t t' : TS} (h : PS X e t) (w : ∀ D σ H, t' D σ H → t D σ H) : PS X e t' := ⟨fun pins s σ H D I q => h.run pins s σ H D I (w D σ H q)⟩
theorem pss_imp {X : Cx} {e : List Stmt} {t t' : TS} (h : PSs X e t) (w : ∀ D σ H, t' D σ H → t D σ H) : PSs X e t' := ⟨fun pins s σ H D I q => h.run pins s σ H D I (w D σ H q)⟩

/-! ### mini steps -/
def chk {α : Type} (c : Prop) [Decidable c] (f : M α) : M α := fun h => if c then f h else .bad
def var (i : Nat) : Ev → M D := fun μ => match μ[i]? with
  | some (some d) => ret d
  | _ => bad
def cst (x : PyData) : Ev → M D := fun _ => ret (.p x)
def bin (g : D → D → M D) (fa fb : Ev → M D) : Ev → M D := fun μ => bnd (fa μ) fun x => bnd (fb μ) fun y => g x y
def un (g : D → M D) (fa : Ev → M D) : Ev → M D := fun μ => bnd (fa μ) g
def aNil : Ev → M (List D) := fun _ => ret []
def aCons (fa : Ev → M D) (fr : Ev → M (List D)) : Ev → M (List D) := fun μ => bnd (fa μ) fun x => bnd (fr μ) fun xs => ret (x :: xs)
def ifE (c : Ev → M Bool) (fa fb : Ev → M D) : Ev → M D := fun μ => bnd (c μ) fun b => if b = true then fa μ else fb μ
/-- a value's truth -/
def truD : D → M Bool
  | .p .none => ret false
  | .p (.bool b) => ret b
  | .p (.int i) => ret (i != 0)
  | .p (.str x) => chk (x.length ≤ sizeLine) (ret ((x.length : Int) != 0))
  | .p (.list xs) => ret (!xs.isEmpty)
  | .p (.tuple xs) => ret (!xs.isEmpty)
  | .cell n => fun h => match h[n]? with
    | some (.lst xs) => .ok (!xs.isEmpty) h
    | _ => .bad
  | _ => bad
def tst (f : Ev → M D) : Ev → M Bool := fun μ => bnd (f μ) truD
/-- a test whose value is a bool -/
def tstB (f : Ev → M D) : Ev → M Bool := fun μ => bnd (f μ) fun d => match d with
  | .p (.bool b) => ret b
  | _ => bad
def notT (c : Ev → M Bool) : Ev → M Bool := fun μ => bnd (c μ) fun b => ret (!b)
def andT (c d : Ev → M Bool) : Ev → M Bool := fun μ => bnd (c μ) fun b => if b = true then d μ else ret false
def orT (c d : Ev → M Bool) : Ev → M Bool := fun μ => bnd (c μ) fun b => if b = true then ret true else d μ
def notE (f : Ev → M D) : Ev → M D := fun μ => bnd (f μ) fun d => bnd (truD d) fun b => ret (.p (.bool (!b)))
def andE (f g : Ev → M D) : Ev → M D := fun μ => bnd (f μ) fun d => bnd (truD d) fun b => if b = true then g μ else ret d
def orE (f g : Ev → M D) : Ev → M D := fun μ => bnd (f μ) fun d => bnd (truD d) fun b => if b = true then ret d else g μ

/-- an operation on two values -/
def Op2 (X : Cx) (W : XK) (f : Value → Value → Sem Value) (g : D → D → M D) : Prop :=
  OpR X f fun v u H Q => ∃ m h x y, Sim X.w X.K X.mg m H h ∧ Rep X.w X.K X.mg m H x v ∧ Rep X.w X.K X.mg m H y u ∧ Post (tx X W) m H (Rep X.w X.K X.mg) (g x y h) Q

section
variable {X : Cx} {W : XK} {a b c e : Expr} {es rest : List Expr} {fa fb fc : Ev → M D} {pos : Pos}

theorem es_var (i : Nat) {x : Str} (hN : X.N[i]? = some x := by rfl) (hv : Vis X.env.scope x := by first | exact Or.inl rfl | exact Or.inr (Or.inl rfl) | exact Or.inr (Or.inr rfl)) (hd : (x == ("__debug__" : Str)) = false := by decide)
    (hcd : (x == ("__classdict__" : Str)) = false := by decide) : ES X W (.Name x pos) (var i) :=
  pe_imp (pe_var hN hv hd hcd) fun σ H Q ⟨μ, m, h, S, E, hp⟩ => by
    unfold var at hp
    cases q : μ[i]? with
    | none => rw [q] at hp; exact hp.elim
    | some o =>
      cases o with
      | none => rw [q] at hp; exact hp.elim
      | some d =>
        rw [q] at hp
        obtain ⟨v, hv, r⟩ := E.at_ i d q
        exact ⟨v, hv, Post.ret hp S r⟩
theorem es_int {i j} : ES X W (.Constant (.int i) j pos) (cst (.int i)) :=
  pe_imp pe_int fun σ H Q ⟨μ, m, h, S, E, hp⟩ => Post.ret hp S (by simp [Rep, RepP])
theorem es_bl {i j} : ES X W (.Constant (.bool i) j pos) (cst (.bool i)) :=
  pe_imp pe_bl fun σ H Q ⟨μ, m, h, S, E, hp⟩ => Post.ret hp S (by simp [Rep, RepP])
theorem es_non {j} : ES X W (.Constant .none j pos) (cst .none) :=
  pe_imp pe_non fun σ H Q ⟨μ, m, h, S, E, hp⟩ => Post.ret hp S (by simp [Rep, RepP])
theorem es_str {i j} : ES X W (.Constant (.str i) j pos) (cst (.str i)) :=
  pe_imp pe_str fun σ H Q ⟨μ, m, h, S, E, hp⟩ => Post.ret hp S (by simp [Rep, RepP])
/-- a constant of the module -/
theorem es_glob {x : Str} {v : V} {u : Value} (d : PyData) (hg : Gl X x) (hm : X.mg x = some u) (r : RelV v u) (rp : ∀ m H, RepP X.w X.K m H d v) (hd : (x == ("__debug__" : Str)) = false := by decide) : ES X W (.Name x pos) (cst d) :=
  pe_imp (pe_glob hg hm r hd) fun σ H Q ⟨μ, m, h, S, E, hp⟩ => Post.ret hp S (by simp only [Rep]; exact rp m H)
/-- a def or class of the module as a value -/
theorem es_globD {x : Str} {f : Addr} (hg : Gl X x) (hm : X.mg x = some (.ref f)) (hd : (x == ("__debug__" : Str)) = false := by decide) : ES X W (.Name x pos) (fun _ => ret (.glob x)) :=
  pe_imp (pe_glob (v := .ref f) hg hm rfl hd) fun σ H Q ⟨μ, m, h, S, E, hp⟩ => Post.ret hp S (by simp only [Rep]; exact ⟨f, rfl, hm⟩)
/-- a built-in class as a value -/
theorem es_ty {x : Str} {n : String} (hg : Gl X x) (hm : X.mg x = none) (hv : bootBuiltins x = some (.type n)) (hn : x ≠ "__name__" := by decide) (hd : (x == ("__debug__" : Str)) = false := by decide) : ES X W (.Name x pos) (fun _ => ret (.ty n)) :=
  pe_imp (pe_bltn (v := .ty n) hg hm hv rfl hn hd) fun σ H Q ⟨μ, m, h, S, E, hp⟩ => Post.ret hp S (by simp only [Rep])

theorem rd_bin {g : D → D → M D} {σ : L2.St} {H : Hp} {Q : VK} (h : rdE (tx X W) (bin g fa fb) σ H Q) :
    rdE (tx X W) fa σ H fun v H1 => rdE (tx X W) fb σ H1 fun u H2 => ∃ m h x y, Sim X.w X.K X.mg m H2 h ∧ Rep X.w X.K X.mg m H2 x v ∧ Rep X.w X.K X.mg m H2 y u ∧ Post (tx X W) m H2 (Rep X.w X.K X.mg) (g x y h) Q := by
  obtain ⟨μ, m, h, S, E, hp⟩ := h
  exact ⟨μ, m, h, S, E, Post.bnd hp fun x h1 m1 H1 v _ S1 X1 r1 hp1 => ⟨μ, m1, h1, S1, E.mono X1, Post.bnd hp1 fun y h2 m2 H2 u _ S2 X2 r2 hp2 => ⟨m2, h2, x, y, S2, r1.mono X2, r2, hp2⟩⟩⟩
theorem es_bin {op : Operator} {g : D → D → M D} (ho : Op2 X W (binaryOp op) g) (ha : ES X W a fa) (hb : ES X W b fb) : ES X W (.BinOp a op b pos) (bin g fa fb) :=
  pe_imp (pe_op ho ha hb) fun σ H Q h => rd_bin h
theorem es_cmp {op : CmpOp} {g : D → D → M D} (ho : Op2 X W (compareOp op) g) (ha : ES X W a fa) (hb : ES X W b fb) (hm : behindInMarks op b = false) : ES X W (.Compare a [op] [b] pos) (bin g fa fb) :=
  pe_imp (pe_cmpR ho ha hb hm) fun σ H Q h => rd_bin h
theorem ts_cmp {op : CmpOp} {g : D → D → M D} (ho : Op2 X W (compareOp op) g) (ha : ES X W a fa) (hb : ES X W b fb) (hm : behindInMarks op b = false) : TsS X W (.Compare a [op] [b] pos) (tstB (bin g fa fb)) :=
  pt_imp (pt_cmpR ho ha hb hm) fun σ H Q ⟨μ, m, h, S, E, hp⟩ => by
    refine rd_bin ⟨μ, m, h, S, E, ?_⟩
    refine Post.bnd hp fun d h1 m1 H1 v _ S1 X1 r1 hp1 => ?_
    cases d with
    | p x =>
      cases x with
      | bool k =>
        simp only [Rep, RepP] at r1
        exact ⟨k, r1, Post.ret hp1 S1 rfl⟩
      | _ => exact hp1.elim
    | _ => exact hp1.elim
def chain (g g' : D → D → M D) (fa fb fc : Ev → M D) : Ev → M D := fun μ => bnd (fa μ) fun x => bnd (fb μ) fun y => bnd (g x y) fun z => match z with
  | .p (.bool k) => if k = true then bnd (fc μ) fun w => g' y w else ret (.p (.bool false))
  | _ => bad
theorem rd_chain {g g' : D → D → M D} {σ : L2.St} {H : Hp} {Q : VK} (h : rdE (tx X W) (chain g g' fa fb fc) σ H Q) :
    tChain (fun v u H Q => ∃ m h x y, Sim X.w X.K X.mg m H h ∧ Rep X.w X.K X.mg m H x v ∧ Rep X.w X.K X.mg m H y u ∧ Post (tx X W) m H (Rep X.w X.K X.mg) (g x y h) Q) (fun v u H Q => ∃ m h x y, Sim X.w X.K X.mg m H h ∧ Rep X.w X.K X.mg m H x v ∧ Rep X.w X.K X.mg m H y u ∧ Post (tx X W) m H (Rep X.w X.K X.mg) (g' x y h) Q)
      (rdE (tx X W) fa) (rdE (tx X W) fb) (rdE (tx X W) fc) σ H Q := by
  obtain ⟨μ, m, h, S, E, hp⟩ := h
  refine ⟨μ, m, h, S, E, Post.bnd hp fun x h1 m1 H1 v _ S1 X1 r1 hp1 => ⟨μ, m1, h1, S1, E.mono X1, Post.bnd hp1 fun y h2 m2 H2 u _ S2 X2 r2 hp2 => ⟨m2, h2, x, y, S2, r1.mono X2, r2, ?_⟩⟩⟩
  refine Post.bnd hp2 fun z h3 m3 H3 k _ S3 X3 r3 hp3 => ?_
  cases z with
  | p z =>
    cases z with
    | bool k =>
      simp only [Rep, RepP] at r3
      refine ⟨k, r3, ?_⟩
      cases k with
      | true => exact ⟨μ, m3, h3, S3, ((E.mono X1).mono X2).mono X3, Post.bnd hp3 fun w h4 m4 H4 t _ S4 X4 r4 hp4 => ⟨m4, h4, y, w, S4, (r2.mono X3).mono X4, r4, hp4⟩⟩
      | false => exact Post.ret hp3 S3 (by simp [Rep, RepP])
    | _ => exact hp3.elim
  | _ => exact hp3.elim
theorem es_chain {op op' : CmpOp} {g g' : D → D → M D} (ho : Op2 X W (compareOp op) g) (ho' : Op2 X W (compareOp op') g') (ha : ES X W a fa) (hb : ES X W b fb) (hc : ES X W c fc) (hm : lastMarks [op, op'] [b, c] = false := by with_unfolding_all rfl) :
    ES X W (.Compare a [op, op'] [b, c] pos) (chain g g' fa fb fc) := pe_imp (pe_chain ho ho' ha hb hc hm) fun σ H Q h => rd_chain h
theorem ts_chain {op op' : CmpOp} {g g' : D → D → M D} (ho : Op2 X W (compareOp op) g) (ho' : Op2 X W (compareOp op') g') (ha : ES X W a fa) (hb : ES X W b fb) (hc : ES X W c fc) (hm : lastMarks [op, op'] [b, c] = false := by with_unfolding_all rfl) :
    TsS X W (.Compare a [op, op'] [b, c] pos) (tstB (chain g g' fa fb fc)) := pt_imp (pt_chain ho ho' ha hb hc hm) fun σ H Q ⟨μ, m, h, S, E, hp⟩ => by
    refine rd_chain ⟨μ, m, h, S, E, ?_⟩
    refine Post.bnd hp fun d h1 m1 H1 v _ S1 X1 r1 hp1 => ?_
    cases d with
    | p x =>
      cases x with
      | bool k =>
        simp only [Rep, RepP] at r1
        exact ⟨k, r1, Post.ret hp1 S1 rfl⟩
      | _ => exact hp1.elim
    | _ => exact hp1.elim

theorem fzl_tru {K : PySem.W.Frag} {m : Mm} {H : Hp} {xs : List PyData} : ∀ {vs : List V}, RepPs w K m H xs vs → xs.isEmpty = vs.isEmpty := fun {vs} h => by
  cases xs with
  | nil => simp only [RepPs] at h; rw [h]; rfl
  | cons x r => simp only [RepPs] at h; obtain ⟨v, r, rfl, _⟩ := h; rfl
theorem RepA.isEmpty {K : PySem.W.Frag} {mg : Str → Option Value} {m : Mm} {H : Hp} {xs : List D} {vs : List V} (h : RepA w K mg m H xs vs) : xs.isEmpty = vs.isEmpty := by
  cases xs with
  | nil => simp only [RepA] at h; rw [h]; rfl
  | cons x r => simp only [RepA] at h; obtain ⟨v, r, rfl, _⟩ := h; rfl
/-- what a value's truth is -/
theorem tru_of {m : Mm} {H : Hp} {h : Hm} {d : D} {v : V} {Q : Bool → Hp → Prop} (S : Sim X.w X.K X.mg m H h) (r : Rep X.w X.K X.mg m H d v) (hp : Post (tx X W) m H RelB (truD d h) Q) : ∃ k, TruV X.K v H k ∧ Q k H := by
  cases d with
  | p x =>
    simp only [Rep] at r
    cases x with
    | none => simp only [RepP] at r; subst r; exact ⟨_, rfl, Post.ret hp S rfl⟩
    | bool b => simp only [RepP] at r; subst r; exact ⟨_, rfl, Post.ret hp S rfl⟩
    | int i => simp only [RepP] at r; subst r; exact ⟨_, rfl, Post.ret hp S rfl⟩
    | str x =>
      simp only [RepP] at r; subst r
      simp only [truD, chk] at hp
      by_cases q : x.length ≤ sizeLine
      · rw [if_pos q] at hp; exact ⟨_, ⟨q, rfl⟩, Post.ret hp S rfl⟩
      · rw [if_neg q] at hp; exact hp.elim
    | list xs =>
      simp only [RepP] at r
      obtain ⟨a, vs, rfl, f, r⟩ := r
      refine ⟨!vs.isEmpty, .inl ⟨vs, f.sq, rfl⟩, ?_⟩
      rw [← fzl_tru r]
      exact Post.ret hp S rfl
    | tuple xs =>
      simp only [RepP] at r
      obtain ⟨a, vs, rfl, f, r⟩ := r
      refine ⟨!vs.isEmpty, .inr (.inl ⟨vs, f.sq, rfl⟩), ?_⟩
      rw [← fzl_tru r]
      exact Post.ret hp S rfl
    | dict kvs => exact hp.elim
  | cell n =>
    simp only [truD] at hp
    cases q : h[n]? with
    | none => rw [q] at hp; exact hp.elim
    | some c =>
      rw [q] at hp
      cases c with
      | lst xs =>
        simp only [Rep] at r
        obtain ⟨a, rfl, ha⟩ := r
        obtain ⟨vs, e, rr⟩ := S.at_ n a _ ha q
        refine ⟨!vs.isEmpty, .inl ⟨vs, .of e, rfl⟩, ?_⟩
        rw [← rr.isEmpty]
        exact hp m H _ S Ext.refl rfl
      | _ => exact hp.elim
  | _ => exact hp.elim
/-- a value as a test -/
theorem ts_val (ha : ES X W a fa) (he : ∀ whole, isTrue a X.env whole = (do let v ← whole; standAt a.pos; holding [v] (truthy v)) := by intro _; rfl) : TsS X W a (tst fa) :=
  pt_imp (pt_truth ha he) fun σ H Q ⟨μ, m, h, S, E, hp⟩ => ⟨μ, m, h, S, E, Post.bnd hp fun d h1 m1 H1 v _ S1 X1 r1 hp1 => tru_of S1 r1 hp1⟩
theorem ts_not {f : Ev → M Bool} (ha : TsS X W a f) : TsS X W (.UnaryOp .Not a pos) (notT f) :=
  pt_imp (pt_not ha) fun σ H Q ⟨μ, m, h, S, E, hp⟩ => ⟨μ, m, h, S, E, Post.bnd hp fun d h1 m1 H1 v _ S1 X1 r1 hp1 => by
    subst r1; exact Post.ret hp1 S1 rfl⟩
abbrev WsS (X : Cx) (W : XK) (e : Expr) (f : Ev → M Bool) : Prop := PW X e (rdT (tx X W) f)
theorem ws_ts {f : Ev → M Bool} (h : WsS X W e f) : TsS X W e f := h.pt
theorem ws_one {op : BoolOp} {f : Ev → M Bool} (ha : TsS X W a f) (hop : op = .And ∨ op = .Or := by first | exact .inl rfl | exact .inr rfl) : WsS X W (.BoolOp op [a] pos) f := by
  rcases hop with rfl | rfl
  · exact pw_and1 ha
  · exact pw_or1 ha
theorem pw_imp {t t' : TT} (h : PW X e t) (w : ∀ σ H Q, t' σ H Q → t σ H Q) : PW X e t' := ⟨fun wh pins s σ H Q I q => h.run wh pins s σ H Q I (w σ H Q q)⟩
theorem ws_and {f g : Ev → M Bool} (ha : TsS X W a f) (hb : WsS X W (.BoolOp .And (b :: rest) pos) g) : WsS X W (.BoolOp .And (a :: b :: rest) pos) (andT f g) :=
  pw_imp (pw_and ha hb) fun σ H Q ⟨μ, m, h, S, E, hp⟩ => ⟨μ, m, h, S, E, Post.bnd hp fun d h1 m1 H1 v _ S1 X1 r1 hp1 => by
    subst r1
    cases v with
    | true => exact ⟨μ, m1, h1, S1, E.mono X1, hp1⟩
    | false => exact Post.ret hp1 S1 rfl⟩
theorem ws_or {f g : Ev → M Bool} (ha : TsS X W a f) (hb : WsS X W (.BoolOp .Or (b :: rest) pos) g) : WsS X W (.BoolOp .Or (a :: b :: rest) pos) (orT f g) :=
  pw_imp (pw_or ha hb) fun σ H Q ⟨μ, m, h, S, E, hp⟩ => ⟨μ, m, h, S, E, Post.bnd hp fun d h1 m1 H1 v _ S1 X1 r1 hp1 => by
    subst r1
    cases v with
    | true => exact Post.ret hp1 S1 rfl
    | false => exact ⟨μ, m1, h1, S1, E.mono X1, hp1⟩⟩
/-- and, or, not as values -/
theorem es_one {op : BoolOp} (ha : ES X W a fa) : ES X W (.BoolOp op [a] pos) fa := pe_one ha
theorem es_and (ha : ES X W a fa) (hb : ES X W (.BoolOp .And (b :: rest) pos) fb) : ES X W (.BoolOp .And (a :: b :: rest) pos) (andE fa fb) :=
  pe_imp (pe_andT ha hb) fun σ H Q ⟨μ, m, h, S, E, hp⟩ => ⟨μ, m, h, S, E, Post.bnd hp fun d h1 m1 H1 v _ S1 X1 r1 hp1 => by
    refine tru_of (Q := fun k H2 => if k = true then rdE (tx X W) fb σ H2 Q else Q v H2) S1 r1 (Post.bnd hp1 fun k h2 m2 H2 k' _ S2 X2 r2 hp2 => ?_)
    subst r2
    cases k' with
    | true => exact ⟨μ, m2, h2, S2, (E.mono X1).mono X2, hp2⟩
    | false => exact Post.ret hp2 S2 (r1.mono X2)⟩
theorem es_or (ha : ES X W a fa) (hb : ES X W (.BoolOp .Or (b :: rest) pos) fb) : ES X W (.BoolOp .Or (a :: b :: rest) pos) (orE fa fb) :=
  pe_imp (pe_orT ha hb) fun σ H Q ⟨μ, m, h, S, E, hp⟩ => ⟨μ, m, h, S, E, Post.bnd hp fun d h1 m1 H1 v _ S1 X1 r1 hp1 => by
    refine tru_of (Q := fun k H2 => if k = true then Q v H2 else rdE (tx X W) fb σ H2 Q) S1 r1 (Post.bnd hp1 fun k h2 m2 H2 k' _ S2 X2 r2 hp2 => ?_)
    subst r2
    cases k' with
    | true => exact Post.ret hp2 S2 (r1.mono X2)
    | false => exact ⟨μ, m2, h2, S2, (E.mono X1).mono X2, hp2⟩⟩
theorem es_not (ha : ES X W a fa) : ES X W (.UnaryOp .Not a pos) (notE fa) :=
  pe_imp (pe_notT ha) fun σ H Q ⟨μ, m, h, S, E, hp⟩ => ⟨μ, m, h, S, E, Post.bnd hp fun d h1 m1 H1 v _ S1 X1 r1 hp1 =>
    tru_of S1 r1 (Post.bnd hp1 fun k h2 m2 H2 k' _ S2 X2 r2 hp2 => by subst r2; exact Post.ret hp2 S2 (by simp [Rep, RepP]))⟩
theorem es_ifE {f : Ev → M Bool} (hc : TsS X W c f) (ha : ES X W a fa) (hb : ES X W b fb) : ES X W (.IfExp c a b pos) (ifE f fa fb) :=
  pe_imp (pe_ifExp hc ha hb) fun σ H Q ⟨μ, m, h, S, E, hp⟩ => ⟨μ, m, h, S, E, Post.bnd hp fun d h1 m1 H1 v _ S1 X1 r1 hp1 => by
    subst r1
    cases v with
    | true => exact ⟨μ, m1, h1, S1, E.mono X1, hp1⟩
    | false => exact ⟨μ, m1, h1, S1, E.mono X1, hp1⟩⟩

/-! ### argument lists, displays -/
theorem as_nil : AS X W [] aNil := pa_imp pa_nil fun σ H Q ⟨μ, m, h, S, E, hp⟩ => Post.ret hp S (by simp [RepA])
theorem as_cons {fr : Ev → M (List D)} (ha : ES X W e fa) (hr : AS X W es fr) (hs : starEach (e :: es) X.env = (false, eval e X.env) :: starEach es X.env := by rfl) : AS X W (e :: es) (aCons fa fr) :=
  pa_imp (pa_cons ha hr hs) fun σ H Q ⟨μ, m, h, S, E, hp⟩ => ⟨μ, m, h, S, E, Post.bnd hp fun x h1 m1 H1 v _ S1 X1 r1 hp1 => ⟨μ, m1, h1, S1, E.mono X1, Post.bnd hp1 fun xs h2 m2 H2 vs _ S2 X2 r2 hp2 =>
    Post.ret hp2 S2 (by simp only [RepA]; exact ⟨v, vs, rfl, r1.mono X2, r2⟩)⟩⟩

/-- all plain -/
def plain : List D → Option (List PyData)
  | [] => some []
  | .p x :: ds => (plain ds).map (x :: ·)
  | _ :: _ => none
theorem plain_rep {K : PySem.W.Frag} {mg : Str → Option Value} {m : Mm} {H : Hp} : ∀ {ds : List D} {xs : List PyData} {vs : List V}, plain ds = some xs → RepA w K mg m H ds vs → RepPs w K m H xs vs
  | [], xs, vs, e, r => by
    simp only [plain, Option.some.injEq] at e
    subst e
    simp only [RepA] at r
    simp only [RepPs]
    exact r
  | .p x :: ds, xs, vs, e, r => by
    simp only [plain, Option.map_eq_some_iff] at e
    obtain ⟨ys, e, rfl⟩ := e
    simp only [RepA, Rep] at r
    obtain ⟨v, r', rfl, h1, h2⟩ := r
    simp only [RepPs]
    exact ⟨v, r', rfl, h1, plain_rep e h2⟩
  | .cell _ :: _, _, _, e, _ => by simp [plain] at e
  | .mix _ :: _, _, _, e, _ => by simp [plain] at e
  | .glob _ :: _, _, _, e, _ => by simp [plain] at e
  | .ty _ :: _, _, _, e, _ => by simp [plain] at e
theorem RepA.length {K : PySem.W.Frag} {mg : Str → Option Value} {m : Mm} {H : Hp} : ∀ {ds : List D} {vs : List V}, RepA w K mg m H ds vs → vs.length = ds.length
  | [], vs, h => by simp only [RepA] at h; rw [h]; rfl
  | d :: ds, vs, h => by
    simp only [RepA] at h
    obtain ⟨v, r, rfl, _, h2⟩ := h
    simp [RepA.length h2]
theorem RepPs.length {K : PySem.W.Frag} {m : Mm} {H : Hp} : ∀ {ds : List PyData} {vs : List V}, RepPs w K m H ds vs → vs.length = ds.length
  | [], vs, h => by simp only [RepPs] at h; rw [h]; rfl
  | d :: ds, vs, h => by
    simp only [RepPs] at h
    obtain ⟨v, r, rfl, _, h2⟩ := h
    simp [RepPs.length h2]
/-- a tuple of written items -/
def mkTup (ds : List D) : M D := chk (ds.length ≤ sizeLine) (match plain ds with
  | some xs => ret (.p (.tuple xs))
  | none => ret (.mix ds))
def tupE (f : Ev → M (List D)) : Ev → M D := fun μ => bnd (f μ) mkTup
/-- a list of plain items, not to be changed -/
def mkLst (ds : List D) : M D := chk (ds.length ≤ sizeLine) (match plain ds with
  | some xs => ret (.p (.list xs))
  | none => bad)
def lstE (f : Ev → M (List D)) : Ev → M D := fun μ => bnd (f μ) mkLst
/-- a list that will be changed: a new cell -/
def newL (ds : List D) : M D := chk (ds.length ≤ sizeLine) fun h => .ok (.cell h.length) (h ++ [.lst ds])
def celE (f : Ev → M (List D)) : Ev → M D := fun μ => bnd (f μ) newL
theorem chk_post {α β : Type} {T : Tx} {m : Mm} {H : Hp} {rel : Mm → Hp → α → β → Prop} {c : Prop} [Decidable c] {f : M α} {h : Hm} {Q : β → Hp → Prop} (hp : Post T m H rel (chk c f h) Q) : c ∧ Post T m H rel (f h) Q := by
  unfold chk at hp
  by_cases q : c
  · rw [if_pos q] at hp; exact ⟨q, hp⟩
  · rw [if_neg q] at hp; exact hp.elim
/-- a new tuple -/
theorem mkTup_post {m : Mm} {H : Hp} {h : Hm} {ds : List D} {vs : List V} {Q : VK} (S : Sim X.w X.K X.mg m H h) (r : RepA X.w X.K X.mg m H ds vs) (hp : Post (tx X W) m H (Rep X.w X.K X.mg) (mkTup ds h) Q) :
    vs.length ≤ sizeLine ∧ ∀ p, H p = none → Q (.ref p) (upd H p (.tup vs)) := by
  obtain ⟨hl, hp⟩ := chk_post hp
  refine ⟨by rw [r.length]; exact hl, fun p np => ?_⟩
  have X1 : Ext m H m (upd H p (.tup vs)) := Ext.new S np
  have S1 := S.new (o := .tup vs) np
  have fz : FzT X.K m (upd H p (.tup vs)) p vs := .inl ⟨upd_same, S.notin np⟩
  cases q : plain ds with
  | some xs =>
    rw [q] at hp
    exact hp m _ _ S1 X1 (by simp only [Rep, RepP]; exact ⟨p, vs, rfl, fz, plain_rep q (r.mono X1)⟩)
  | none =>
    rw [q] at hp
    exact hp m _ _ S1 X1 (by simp only [Rep]; exact ⟨p, vs, rfl, fz, r.mono X1⟩)
theorem mkLst_post {m : Mm} {H : Hp} {h : Hm} {ds : List D} {vs : List V} {Q : VK} (S : Sim X.w X.K X.mg m H h) (r : RepA X.w X.K X.mg m H ds vs) (hp : Post (tx X W) m H (Rep X.w X.K X.mg) (mkLst ds h) Q) :
    vs.length ≤ sizeLine ∧ ∀ p, H p = none → Q (.ref p) (upd H p (.lst vs)) := by
  obtain ⟨hl, hp⟩ := chk_post hp
  refine ⟨by rw [r.length]; exact hl, fun p np => ?_⟩
  have X1 : Ext m H m (upd H p (.lst vs)) := Ext.new S np
  have S1 := S.new (o := .lst vs) np
  have fz : FzL X.K m (upd H p (.lst vs)) p vs := .inl ⟨.inl upd_same, S.notin np⟩
  cases q : plain ds with
  | some xs =>
    rw [q] at hp
    exact hp m _ _ S1 X1 (by simp only [Rep, RepP]; exact ⟨p, vs, rfl, fz, plain_rep q (r.mono X1)⟩)
  | none => rw [q] at hp; exact hp.elim
theorem newL_post {m : Mm} {H : Hp} {h : Hm} {ds : List D} {vs : List V} {Q : VK} (S : Sim X.w X.K X.mg m H h) (r : RepA X.w X.K X.mg m H ds vs) (hp : Post (tx X W) m H (Rep X.w X.K X.mg) (newL ds h) Q) :
    vs.length ≤ sizeLine ∧ ∀ p, H p = none → Q (.ref p) (upd H p (.lst vs)) := by
  obtain ⟨hl, hp⟩ := chk_post hp
  refine ⟨by rw [r.length]; exact hl, fun p np => ?_⟩
  have X1 : Ext m H (m.push p) (upd H p (.lst vs)) := Ext.push S np
  exact hp _ _ _ (S.push np ⟨vs, upd_same, r.mono X1⟩) X1 (by simp only [Rep]; exact ⟨p, rfl, S.push_at⟩)
theorem es_tup {k : Nat} {f : Ev → M (List D)} (h : AS X W es f) : ES X W (.Tuple es k pos) (tupE f) :=
  pe_imp (pe_tup h) fun σ H Q ⟨μ, m, h, S, E, hp⟩ => ⟨μ, m, h, S, E, Post.bnd hp fun ds h1 m1 H1 vs _ S1 X1 r1 hp1 => mkTup_post S1 r1 hp1⟩
theorem es_lst {f : Ev → M (List D)} (h : AS X W es f) : ES X W (.List es pos) (lstE f) :=
  pe_imp (pe_lst h) fun σ H Q ⟨μ, m, h, S, E, hp⟩ => ⟨μ, m, h, S, E, Post.bnd hp fun ds h1 m1 H1 vs _ S1 X1 r1 hp1 => mkLst_post S1 r1 hp1⟩
theorem es_cel {f : Ev → M (List D)} (h : AS X W es f) : ES X W (.List es pos) (celE f) :=
  pe_imp (pe_lst h) fun σ H Q ⟨μ, m, h, S, E, hp⟩ => ⟨μ, m, h, S, E, Post.bnd hp fun ds h1 m1 H1 vs _ S1 X1 r1 hp1 => newL_post S1 r1 hp1⟩
end
end MP
/-! MP2: values that are read now; operators, comparisons. -/
namespace MP
open PySem PySem.Spec PyProof.Rows L2

/-! ### what a value reads as now -/
def lookD (h : Hm) : D → Option PyData
  | .p x => some x
  | .cell n => match h[n]? with
    | some (.lst xs) => (plain xs).map .list
    | some (.dct _ kvs) => (plain (kvs.map (·.2))).map fun vs => .dict ((kvs.map (·.1)).zip vs)
    | _ => none
  | _ => none
/-- a dict that stands at a -/
def DicH (w : World) (H : Hp) (a : Addr) (ks : List PyData) (kv vs : List V) : Prop :=
  (∃ kk : List (Key × V), H a = some (.dK kk) ∧ kk.map (fun p => keyP p.1) = ks ∧ kk.map (·.2) = vs) ∨
    ∃ xs, DN w H a xs ∧ keysD xs = ks ∧ keysV xs = kv ∧ Vals vs (xs.map (·.2.2))
def RdP (w : World) (K : PySem.W.Frag) (m : Mm) (H : Hp) : PyData → V → Prop
  | .list xs, v => ∃ a vs, v = .ref a ∧ SqL K H a vs ∧ RepPs w K m H xs vs
  | .dict kvs, v => ∃ a kv vs, v = .ref a ∧ DicH w H a (kvs.map (·.1)) kv vs ∧ RepPs w K m H (kvs.map (·.1)) kv ∧ RepPs w K m H (kvs.map (·.2)) vs
  | x, v => RepP w K m H x v
theorem keyP_rep {w : World} {K : PySem.W.Frag} {m : Mm} {H : Hp} (k : Key) : RepP w K m H (keyP k) (kV k) := by
  cases k <;> simp only [keyP, kV, RepP]
theorem keysK_rep {w : World} {K : PySem.W.Frag} {m : Mm} {H : Hp} : ∀ (kk : List (Key × V)), RepPs w K m H (kk.map fun p => keyP p.1) (kk.map fun p => kV p.1)
  | [] => by simp only [List.map_nil, RepPs]
  | p :: r => by simp only [List.map_cons, RepPs]; exact ⟨_, _, rfl, keyP_rep p.1, keysK_rep r⟩
theorem repKs_iff {w : World} {K : PySem.W.Frag} {m : Mm} {H : Hp} : ∀ {kvs : List (PyData × PyData)} {vs : List V}, RepKs w K m H kvs vs ↔ RepPs w K m H (kvs.map (·.1)) vs
  | [], vs => by simp only [RepKs, List.map_nil, RepPs]
  | (k, d) :: r, vs => by
    simp only [RepKs, List.map_cons, RepPs]
    constructor
    · rintro ⟨v, r, e, h1, h2⟩
      exact ⟨v, r, e, h1, repKs_iff.mp h2⟩
    · rintro ⟨v, r, e, h1, h2⟩
      exact ⟨v, r, e, h1, repKs_iff.mpr h2⟩
theorem repVs_iff {w : World} {K : PySem.W.Frag} {m : Mm} {H : Hp} : ∀ {kvs : List (PyData × PyData)} {vs : List V}, RepVs w K m H kvs vs ↔ RepPs w K m H (kvs.map (·.2)) vs
  | [], vs => by simp only [RepVs, List.map_nil, RepPs]
  | (k, d) :: r, vs => by
    simp only [RepVs, List.map_cons, RepPs]
    constructor
    · rintro ⟨v, r, e, h1, h2⟩
      exact ⟨v, r, e, h1, repVs_iff.mp h2⟩
    · rintro ⟨v, r, e, h1, h2⟩
      exact ⟨v, r, e, h1, repVs_iff.mpr h2⟩
theorem RepP.rd {w : World} {K : PySem.W.Frag} {m : Mm} {H : Hp} {x : PyData} {v : V} (r : RepP w K m H x v) : RdP w K m H x v := by
  cases x with
  | list xs =>
    simp only [RepP] at r
    obtain ⟨a, vs, e, f, r⟩ := r
    exact ⟨a, vs, e, f.sq, r⟩
  | dict kvs =>
    simp only [RepP] at r
    obtain ⟨a, ks, vs, e, f, k, r⟩ := r
    exact ⟨a, ks, vs, e, f.2.imp (fun ⟨kk, _, z⟩ => ⟨kk, z⟩) id, repKs_iff.mp k, repVs_iff.mp r⟩
  | _ => exact r
theorem look_rd {w : World} {K : PySem.W.Frag} {mg : Str → Option Value} {m : Mm} {H : Hp} {h : Hm} {d : D} {v : V} {x : PyData} (S : Sim w K mg m H h) (r : Rep w K mg m H d v) (e : lookD h d = some x) : RdP w K m H x v := by
  cases d with
  | p y =>
    simp only [lookD, Option.some.injEq] at e
    subst e
    simp only [Rep] at r
    exact r.rd
  | cell n =>
    simp only [Rep] at r
    obtain ⟨a, rfl, ha⟩ := r
    simp only [lookD] at e
    cases q : h[n]? with
    | none => rw [q] at e; cases e
    | some c =>
      rw [q] at e
      have cr := S.at_ n a c ha q
      cases c with
      | lst xs =>
        simp only [Option.map_eq_some_iff] at e
        obtain ⟨ys, e, rfl⟩ := e
        obtain ⟨vs, hv, rv⟩ := cr
        exact ⟨a, vs, rfl, .of hv, plain_rep e rv⟩
      | dct t kvs =>
        simp only [Option.map_eq_some_iff] at e
        obtain ⟨ys, e, rfl⟩ := e
        obtain ⟨vs, rv, hv⟩ := cr
        have rp := plain_rep e rv
        have hl : (kvs.map (·.1)).length = ys.length := by
          have h1 := rp.length
          have h2 := rv.length
          simp only [List.length_map] at h2 ⊢
          omega
        have e1 : ((kvs.map (·.1)).zip ys).map (·.1) = kvs.map (·.1) := List.map_fst_zip (Nat.le_of_eq hl)
        have e2 : ((kvs.map (·.1)).zip ys).map (·.2) = ys := List.map_snd_zip (Nat.le_of_eq hl.symm)
        rcases hv with ⟨_, kk, a1, a2, a3⟩ | ⟨_, xs, dn, a2, a3, a4⟩
        · refine ⟨a, kk.map fun p => kV p.1, vs, rfl, .inl ⟨kk, a1, by rw [e1]; exact a2, a3⟩, ?_, by rw [e2]; exact rp⟩
          rw [e1, ← a2]
          exact keysK_rep kk
        · exact ⟨a, keysV xs, vs, rfl, .inr ⟨xs, dn, by rw [e1]; exact a2, rfl, a4⟩, by rw [e1]; exact a3, by rw [e2]; exact rp⟩
      | obj cls fs => cases e
  | mix xs => cases e
  | glob x => cases e
  | ty n => cases e
  | fob c fs => cases e

def rd1 {α : Type} (g : PyData → M α) (x : D) : M α := fun h => match lookD h x with
  | some p => g p h
  | none => .bad
def rd2 {α : Type} (g : PyData → PyData → M α) (x y : D) : M α := fun h => match lookD h x, lookD h y with
  | some p, some q => g p q h
  | _, _ => .bad
@[simp] theorem rd1_p {α : Type} (g : PyData → M α) (x : PyData) : rd1 g (.p x) = g x := rfl
@[simp] theorem rd2_p {α : Type} (g : PyData → PyData → M α) (x y : PyData) : rd2 g (.p x) (.p y) = g x y := rfl
theorem rd2_post {α β : Type} {T : Tx} {m : Mm} {H : Hp} {rel : Mm → Hp → α → β → Prop} {g : PyData → PyData → M α} {x y : D} {h : Hm} {v u : V} {Q : β → Hp → Prop} (S : Sim T.w T.K T.mg m H h) (r1 : Rep T.w T.K T.mg m H x v) (r2 : Rep T.w T.K T.mg m H y u)
    (hp : Post T m H rel (rd2 g x y h) Q) : ∃ p q, RdP T.w T.K m H p v ∧ RdP T.w T.K m H q u ∧ Post T m H rel (g p q h) Q := by
  unfold rd2 at hp
  cases e1 : lookD h x with
  | none => rw [e1] at hp; exact hp.elim
  | some p =>
    cases e2 : lookD h y with
    | none => rw [e1, e2] at hp; exact hp.elim
    | some q =>
      rw [e1, e2] at hp
      exact ⟨p, q, look_rd S r1 e1, look_rd S r2 e2, hp⟩
theorem rd1_post {α β : Type} {T : Tx} {m : Mm} {H : Hp} {rel : Mm → Hp → α → β → Prop} {g : PyData → M α} {x : D} {h : Hm} {v : V} {Q : β → Hp → Prop} (S : Sim T.w T.K T.mg m H h) (r1 : Rep T.w T.K T.mg m H x v)
    (hp : Post T m H rel (rd1 g x h) Q) : ∃ p, RdP T.w T.K m H p v ∧ Post T m H rel (g p h) Q := by
  unfold rd1 at hp
  cases e1 : lookD h x with
  | none => rw [e1] at hp; exact hp.elim
  | some p =>
    rw [e1] at hp
    exact ⟨p, look_rd S r1 e1, hp⟩

/-- an operator by a mini function on data -/
theorem op2_of {X : Cx} {W : XK} {f : Value → Value → Sem Value} {r : R2} {g : PyData → PyData → M D} (ho : OpR X f r)
    (hg : ∀ m H h p q v u Q, Sim X.w X.K X.mg m H h → RdP X.w X.K m H p v → RdP X.w X.K m H q u → Post (tx X W) m H (Rep X.w X.K X.mg) (g p q h) Q → r v u H Q) : Op2 X W f (rd2 g) := by
  intro pins s σ H x y v u Q I rx ry h
  obtain ⟨m, h0, d, e, S, r1, r2, hp⟩ := h
  obtain ⟨p, q, h1, h2, hp⟩ := rd2_post (T := tx X W) S r1 r2 hp
  exact ho pins s σ H x y v u Q I rx ry (hg m H h0 p q x y Q S h1 h2 hp)

/-! ### arithmetic, + -/
def addP : PyData → PyData → M D
  | .int i, .int j => ret (.p (.int (i + j)))
  | .str x, .str y => chk (x.length + y.length ≤ sizeLine) (ret (.p (.str (x ++ y))))
  | .list xs, .list ys => chk (xs.length + ys.length ≤ sizeLine) (ret (.p (.list (xs ++ ys))))
  | .tuple xs, .tuple ys => chk (xs.length + ys.length ≤ sizeLine) (ret (.p (.tuple (xs ++ ys))))
  | _, _ => bad
theorem RepPs.append {w : World} {K : PySem.W.Frag} {m : Mm} {H : Hp} : ∀ {xs ys : List PyData} {vs us : List V}, RepPs w K m H xs vs → RepPs w K m H ys us → RepPs w K m H (xs ++ ys) (vs ++ us)
  | [], ys, vs, us, h, g => by
    simp only [RepPs] at h
    subst h
    exact g
  | x :: xs, ys, vs, us, h, g => by
    simp only [RepPs] at h
    obtain ⟨v, r, rfl, h1, h2⟩ := h
    simp only [List.cons_append, RepPs]
    exact ⟨v, _, rfl, h1, RepPs.append h2 g⟩
/-- a new list of plain items, a new tuple -/
theorem new_lst {X : Cx} {W : XK} {m : Mm} {H : Hp} {h : Hm} {xs : List PyData} {vs : List V} {Q : VK} (S : Sim X.w X.K X.mg m H h) (r : RepPs X.w X.K m H xs vs) (hp : Post (tx X W) m H (Rep X.w X.K X.mg) (ret (.p (.list xs)) h) Q) :
    ∀ p, H p = none → Q (.ref p) (upd H p (.lst vs)) := fun p np =>
  hp m _ _ (S.new np) (Ext.new S np) (by simp only [Rep, RepP]; exact ⟨p, vs, rfl, .inl ⟨.inl upd_same, S.notin np⟩, r.mono (Ext.new S np)⟩)
theorem new_tup {X : Cx} {W : XK} {m : Mm} {H : Hp} {h : Hm} {xs : List PyData} {vs : List V} {Q : VK} (S : Sim X.w X.K X.mg m H h) (r : RepPs X.w X.K m H xs vs) (hp : Post (tx X W) m H (Rep X.w X.K X.mg) (ret (.p (.tuple xs)) h) Q) :
    ∀ p, H p = none → Q (.ref p) (upd H p (.tup vs)) := fun p np =>
  hp m _ _ (S.new np) (Ext.new S np) (by simp only [Rep, RepP]; exact ⟨p, vs, rfl, .inl ⟨upd_same, S.notin np⟩, r.mono (Ext.new S np)⟩)
def rCatL (K : PySem.W.Frag) : R2 := fun x y H Q => ∃ l b xs ys, x = .ref l ∧ y = .ref b ∧ SqL K H l xs ∧ SqL K H b ys ∧ xs.length + ys.length ≤ sizeLine ∧ ∀ p, H p = none → Q (.ref p) (upd H p (.lst (xs ++ ys)))
theorem op_catL {X : Cx} : OpR X (binaryOp .Add) (rCatL X.K) := by
  intro pins s σ H x y v u Q I rx ry h
  obtain ⟨l, b, xs, ys, rfl, rfl, h1, h2, hz, q⟩ := h
  cases rx
  cases ry
  obtain ⟨as, r1, p1, z1⟩ := I.list h1
  obtain ⟨bs, r2, p2, z2⟩ := I.list h2
  have e1 := r1.length
  have e2 := r2.length
  obtain ⟨⟨c1, d1, k1, s1⟩, g1, w1, n1, t1⟩ := p1.isList
  obtain ⟨⟨c2, d2, k2, s2⟩, g2, w2, n2, t2⟩ := p2.isList
  simp only at w1 t1 w2 t2
  subst w1 t1 w2 t2
  have hz' : as.toArray.size + bs.toArray.size ≤ sizeLine := by simp only [List.size_toArray]; omega
  refine concat_meets ⟨_, g1, rfl⟩ ⟨_, g2, rfl⟩ noFill_list_add seq_list_add PySem.F.slot_list_add PySem.F.entry_list_add (PySem.F.args_list_add_2 _ _) (list_addW l b as.toArray bs.toArray n1 n2 d1 d2 s1 s2 hz') ⟨g1, g2, ?_⟩
  have ea : as.toArray ++ bs.toArray = (as ++ bs).toArray := by simp
  rw [ea]
  exact ⟨.ref _, _, I.lnew (t' := s.toks) (r1.append r2) (by rw [List.length_append]; exact hz), rfl, q _ I.fresh⟩
theorem o_add {X : Cx} {W : XK} : Op2 X W (binaryOp .Add) (rd2 addP) := by
  refine op2_of ((op_add.or op_add_str).or (op_catL.or op_catA)) fun m H h p q v u Q S r1 r2 hp => ?_
  cases p with
  | int i =>
    cases q with
    | int j =>
      simp only [RdP, RepP] at r1 r2
      exact .inl (.inl ⟨i, j, r1, r2, Post.ret hp S (by simp [Rep, RepP])⟩)
    | _ => exact hp.elim
  | str x =>
    cases q with
    | str y =>
      simp only [RdP, RepP] at r1 r2
      obtain ⟨hz, hp⟩ := chk_post hp
      exact .inl (.inr ⟨x, y, r1, r2, hz, Post.ret hp S (by simp [Rep, RepP])⟩)
    | _ => exact hp.elim
  | list xs =>
    cases q with
    | list ys =>
      obtain ⟨a, vs, rfl, s1, t1⟩ := r1
      obtain ⟨b, us, rfl, s2, t2⟩ := r2
      obtain ⟨hz, hp⟩ := chk_post hp
      exact .inr (.inl ⟨a, b, vs, us, rfl, rfl, s1, s2, by rw [t1.length, t2.length]; exact hz, new_lst S (t1.append t2) hp⟩)
    | _ => exact hp.elim
  | tuple xs =>
    cases q with
    | tuple ys =>
      simp only [RdP, RepP] at r1 r2
      obtain ⟨a, vs, rfl, s1, t1⟩ := r1
      obtain ⟨b, us, rfl, s2, t2⟩ := r2
      obtain ⟨hz, hp⟩ := chk_post hp
      refine .inr (.inr ⟨a, b, vs, us, rfl, rfl, s1.sq, s2.sq, by rw [t1.length, t2.length]; exact hz, fun e => ?_, fun e1 e2 => ?_, fun _ _ => new_tup S (t1.append t2) hp⟩)
      · subst e
        have : xs = [] := by
          have := t1.length
          cases xs with
          | nil => rfl
          | cons x r => simp at this
        subst this
        exact Post.ret hp S (by simp only [Rep, RepP, List.nil_append]; exact ⟨b, us, rfl, s2, t2⟩)
      · subst e2
        have : ys = [] := by
          have := t2.length
          cases ys with
          | nil => rfl
          | cons x r => simp at this
        subst this
        exact Post.ret hp S (by simp only [Rep, RepP, List.append_nil]; exact ⟨a, vs, rfl, s1, t1⟩)
    | _ => exact hp.elim
  | _ => exact hp.elim
def subP : PyData → PyData → M D
  | .int i, .int j => ret (.p (.int (i - j)))
  | _, _ => bad
theorem o_sub {X : Cx} {W : XK} : Op2 X W (binaryOp .Sub) (rd2 subP) := by
  refine op2_of op_sub fun m H h p q v u Q S r1 r2 hp => ?_
  cases p with
  | int i =>
    cases q with
    | int j =>
      simp only [RdP, RepP] at r1 r2
      exact ⟨i, j, r1, r2, Post.ret hp S (by simp [Rep, RepP])⟩
    | _ => exact hp.elim
  | _ => exact hp.elim
/-- n times a text -/
def strMul (x : Str) (n : Int) : Str := ⟨(List.replicate n.toNat x.cps.toList).flatten.toArray⟩
def mulP : PyData → PyData → M D
  | .int i, .int j => chk ((-(2 ^ 64) < i ∧ i < 2 ^ 64) ∨ (-(2 ^ 64) < j ∧ j < 2 ^ 64)) (ret (.p (.int (i * j))))
  | .str x, .int n => chk (n < 1000000 ∧ -1000000 < n ∧ x.length < 1000 ∧ x.length * n.toNat ≤ sizeLine) (ret (.p (.str (strMul x n))))
  | _, _ => bad
theorem foldl_cps (x : Array Nat) : ∀ (n : Nat) (acc : Array Nat), (List.replicate n x).foldl (· ++ ·) acc = (acc.toList ++ (List.replicate n x.toList).flatten).toArray
  | 0, acc => by simp
  | n + 1, acc => by
    rw [List.replicate_succ, List.foldl_cons, foldl_cps x n (acc ++ x)]
    simp [List.replicate_succ]
def rMulS : R2 := fun x y H Q => ∃ z n, x = .str z ∧ y = .int n ∧ (n < 1000000 ∧ -1000000 < n ∧ z.length < 1000 ∧ z.length * n.toNat ≤ sizeLine) ∧ Q (.str (strMul z n)) H
theorem op_mulS {X : Cx} : OpR X (binaryOp .Mult) rMulS := by
  intro pins s σ H x y v u Q I rx ry h
  obtain ⟨z, n, rfl, rfl, ⟨h1, h2, h3, h4⟩, q⟩ := h
  obtain ⟨t, rfl⟩ := rx
  obtain ⟨t', rfl⟩ := ry
  have e1 : (decide (n < -(2 ^ 63 : Int)) || decide (n ≥ 2 ^ 63)) = false := by
    rw [decide_eq_false (by omega), decide_eq_false (by omega)]; rfl
  refine PySem.P.mul_str e1 (fun a b => ?_) (fun a b => ?_) ?_
  · have hn : 1 ≤ n := by omega
    have : (1000000 : Int) ≤ (2 ^ 63 - 1) / n := (Int.le_ediv_iff_mul_le (by omega)).mpr (by omega)
    omega
  · unfold PySem.Builtin.Str.tooLong
    exact decide_eq_false (by omega)
  · have fin : ∀ y : Str, y = strMul z n → ∀ tk t0, EP X pins σ Q (.str y t0) { s with toks := tk } := fun y e tk t0 => ⟨.str (strMul z n), H, I.tok _, ⟨t0, by rw [e]⟩, q⟩
    by_cases c1 : n < 1
    · rw [if_pos c1]
      refine ⟨by decide, fin _ ?_ _ _⟩
      have : n.toNat = 0 := by omega
      unfold strMul
      rw [this]
      rfl
    · rw [if_neg c1]
      by_cases c2 : (n == 1 || z.length == 0) = true
      · rw [if_pos c2]
        refine fin _ ?_ _ _
        simp only [Bool.or_eq_true, beq_iff_eq] at c2
        unfold strMul
        rcases c2 with c2 | c2
        · subst c2
          simp
        · have e0 : z.cps.toList = [] := by
            have : z.cps.size = 0 := c2
            simpa using this
          rw [e0]
          have : (List.replicate n.toNat ([] : List Nat)).flatten = [] := by simp
          rw [this]
          cases z with
          | mk c =>
            simp only at e0
            simp at e0
            subst e0
            rfl
      · rw [if_neg c2]
        refine ⟨?_, fin _ ?_ _ _⟩
        · simp only [foldl_cps]
          show (_ : Nat) ≤ _
          simp only [List.nil_append, PySem.Str.length, List.size_toArray, List.length_flatten, List.map_replicate, List.sum_replicate_nat, Array.length_toList, Array.toList_empty]
          have : z.cps.size = z.length := rfl
          rw [this, Nat.mul_comm]
          exact h4
        · unfold strMul
          simp only [foldl_cps, Array.toList_empty, List.nil_append]
theorem o_mul {X : Cx} {W : XK} : Op2 X W (binaryOp .Mult) (rd2 mulP) := by
  refine op2_of (op_mul.or op_mulS) fun m H h p q v u Q S r1 r2 hp => ?_
  cases p with
  | int i =>
    cases q with
    | int j =>
      simp only [RdP, RepP] at r1 r2
      obtain ⟨hz, hp⟩ := chk_post hp
      exact .inl ⟨i, j, r1, r2, hz, Post.ret hp S (by simp [Rep, RepP])⟩
    | _ => exact hp.elim
  | str x =>
    cases q with
    | int j =>
      simp only [RdP, RepP] at r1 r2
      obtain ⟨hz, hp⟩ := chk_post hp
      exact .inr ⟨x, j, r1, r2, hz, Post.ret hp S (by simp [Rep, RepP])⟩
    | _ => exact hp.elim
  | _ => exact hp.elim
def divP : PyData → PyData → M D
  | .int i, .int j => chk (0 < j ∧ j < 1073741824) (ret (.p (.int (i / j))))
  | _, _ => bad
theorem o_div {X : Cx} {W : XK} : Op2 X W (binaryOp .FloorDiv) (rd2 divP) := by
  refine op2_of op_fdiv fun m H h p q v u Q S r1 r2 hp => ?_
  cases p with
  | int i =>
    cases q with
    | int j =>
      simp only [RdP, RepP] at r1 r2
      obtain ⟨hz, hp⟩ := chk_post hp
      exact ⟨i, j, r1, r2, hz, Post.ret hp S (by simp [Rep, RepP])⟩
    | _ => exact hp.elim
  | _ => exact hp.elim
def modP : PyData → PyData → M D
  | .int i, .int j => chk (0 < j) (ret (.p (.int (i % j))))
  | _, _ => bad
theorem o_mod {X : Cx} {W : XK} : Op2 X W (binaryOp .Mod) (rd2 modP) := by
  refine op2_of op_mod fun m H h p q v u Q S r1 r2 hp => ?_
  cases p with
  | int i =>
    cases q with
    | int j =>
      simp only [RdP, RepP] at r1 r2
      obtain ⟨hz, hp⟩ := chk_post hp
      exact ⟨i, j, r1, r2, hz, Post.ret hp S (by simp [Rep, RepP])⟩
    | _ => exact hp.elim
  | _ => exact hp.elim
def powP : PyData → PyData → M D
  | .int i, .int j => chk (0 ≤ j ∧ j ≤ 1000000 ∧ i.natAbs < 2 ^ 64) (ret (.p (.int (i ^ j.toNat))))
  | _, _ => bad
theorem o_pow {X : Cx} {W : XK} : Op2 X W (binaryOp .Pow) (rd2 powP) := by
  refine op2_of op_pow fun m H h p q v u Q S r1 r2 hp => ?_
  cases p with
  | int i =>
    cases q with
    | int j =>
      simp only [RdP, RepP] at r1 r2
      obtain ⟨hz, hp⟩ := chk_post hp
      exact ⟨i, j, r1, r2, hz, Post.ret hp S (by simp [Rep, RepP])⟩
    | _ => exact hp.elim
  | _ => exact hp.elim
def negD : D → M D
  | .p (.int i) => ret (.p (.int (-i)))
  | _ => bad
theorem es_neg {X : Cx} {W : XK} {a : Expr} {fa : Ev → M D} {pos : Pos} (ha : ES X W a fa) : ES X W (.UnaryOp .USub a pos) (un negD fa) :=
  pe_imp (pe_un un_neg ha) fun σ H Q ⟨μ, m, h, S, E, hp⟩ => ⟨μ, m, h, S, E, Post.bnd hp fun d h1 m1 H1 v _ S1 X1 r1 hp1 => by
    cases d with
    | p x =>
      cases x with
      | int i =>
        simp only [Rep, RepP] at r1
        exact ⟨i, r1, Post.ret hp1 S1 (by simp [Rep, RepP])⟩
      | _ => exact hp1.elim
    | _ => exact hp1.elim⟩

/-! ### comparisons -/
def ordP (f : Int → Int → Bool) (g : Str → Str → Bool) : PyData → PyData → M D
  | .int i, .int j => ret (.p (.bool (f i j)))
  | .str x, .str y => ret (.p (.bool (g x y)))
  | _, _ => bad
def intP (f : Int → Int → Bool) : PyData → PyData → M D
  | .int i, .int j => ret (.p (.bool (f i j)))
  | _, _ => bad
theorem o_ints {X : Cx} {W : XK} {op : CmpOp} {f : Int → Int → Bool} (ho : OpR X (compareOp op) (rI0 fun i j => .bl (f i j))) : Op2 X W (compareOp op) (rd2 (intP f)) := by
  refine op2_of ho fun m H h p q v u Q S r1 r2 hp => ?_
  cases p with
  | int i =>
    cases q with
    | int j =>
      simp only [RdP, RepP] at r1 r2
      exact ⟨i, j, r1, r2, Post.ret hp S (by simp [Rep, RepP])⟩
    | _ => exact hp.elim
  | _ => exact hp.elim
theorem o_le {X : Cx} {W : XK} : Op2 X W (compareOp .LtE) (rd2 (intP fun i j => decide (i ≤ j))) := o_ints op_le
theorem o_gt {X : Cx} {W : XK} : Op2 X W (compareOp .Gt) (rd2 (intP fun i j => decide (j < i))) := o_ints op_gt
theorem o_ge {X : Cx} {W : XK} : Op2 X W (compareOp .GtE) (rd2 (intP fun i j => decide (j ≤ i))) := o_ints op_ge
theorem o_lti {X : Cx} {W : XK} : Op2 X W (compareOp .Lt) (rd2 (intP fun i j => decide (i < j))) := o_ints op_lt
/-- data as Dp has it -/
def noDict (x : PyData) : Bool := !x.hasDict
mutual
theorem RepP.dp {w : World} {K : PySem.W.Frag} {m : Mm} {H : Hp} : ∀ (x : PyData) (v : V), x.hasDict = false → RepP w K m H x v → Dp K H v x
  | .none, v, _, r => by simp only [RepP] at r; subst r; exact .non
  | .bool b, v, _, r => by simp only [RepP] at r; subst r; exact .bl b
  | .int b, v, _, r => by simp only [RepP] at r; subst r; exact .int b
  | .str b, v, _, r => by simp only [RepP] at r; subst r; exact .str b
  | .list xs, v, e, r => by
    simp only [RepP] at r
    obtain ⟨a, vs, rfl, f, r⟩ := r
    exact .lst f.sq (RepPs.dp xs vs (by simpa only [PyData.hasDict] using e) r)
  | .tuple xs, v, e, r => by
    simp only [RepP] at r
    obtain ⟨a, vs, rfl, f, r⟩ := r
    exact .tup f.sq (RepPs.dp xs vs (by simpa only [PyData.hasDict] using e) r)
  | .dict kvs, v, e, _ => by simp [PyData.hasDict] at e
theorem RepPs.dp {w : World} {K : PySem.W.Frag} {m : Mm} {H : Hp} : ∀ (xs : List PyData) (vs : List V), PyData.hasDictAll xs = false → RepPs w K m H xs vs → DpAll K H vs xs
  | [], vs, _, r => by simp only [RepPs] at r; subst r; exact .nil
  | x :: xs, vs, e, r => by
    simp only [RepPs] at r
    obtain ⟨v, r, rfl, h1, h2⟩ := r
    simp only [PyData.hasDictAll, Bool.or_eq_false_iff] at e
    exact .cons (RepP.dp x v e.1 h1) (RepPs.dp xs r e.2 h2)
end
theorem RdP.dp {w : World} {K : PySem.W.Frag} {m : Mm} {H : Hp} {x : PyData} {v : V} (e : x.hasDict = false) (r : RdP w K m H x v) : Dp K H v x := by
  cases x with
  | list xs =>
    obtain ⟨a, vs, rfl, f, r⟩ := r
    exact .lst f (RepPs.dp xs vs (by simpa only [PyData.hasDict] using e) r)
  | dict kvs => simp [PyData.hasDict] at e
  | _ => exact RepP.dp (w := w) (m := m) _ _ e r
/-- two texts -/
def twoS : PyData → PyData → Bool
  | .str _, .str _ => true
  | _, _ => false
/-- == of two texts, or of data without dicts, at most 64 deep -/
def eqP (neg : Bool) (x y : PyData) : M D := chk (twoS x y = true ∨ (SeqAt.shaped x = true ∧ SeqAt.shaped y = true)) (ret (.p (.bool (if neg then !PyData.eqv x y else PyData.eqv x y))))
theorem twoS_of : ∀ {x y : PyData}, twoS x y = true → ∃ a b, x = .str a ∧ y = .str b
  | .str a, .str b, _ => ⟨a, b, rfl, rfl⟩
theorem shaped_noDict {x : PyData} (h : SeqAt.shaped x = true) : x.hasDict = false := by
  have h' : (x.canLay0 && decide (x.depth ≤ 64)) = true := h
  simp only [Bool.and_eq_true] at h'
  exact PyData.hasDict_of_canLay x h'.1
theorem o_eq {X : Cx} {W : XK} {k : Nat} (hr : Room k X.A) : Op2 X W (compareOp .Eq) (rd2 (eqP false)) := by
  refine op2_of (op_eq.or (op_eqD hr.units)) fun m H h p q v u Q S r1 r2 hp => ?_
  obtain ⟨h1 | ⟨h1, h2⟩, hp⟩ := chk_post hp
  · obtain ⟨a, b, rfl, rfl⟩ := twoS_of h1
    simp only [RdP, RepP] at r1 r2
    subst r1 r2
    exact .inl ⟨rfl, Post.ret hp S (by simp only [Rep, RepP, PyData.eqv, dec_str]; rfl)⟩
  · exact .inr ⟨p, q, r1.dp (shaped_noDict h1), r2.dp (shaped_noDict h2), h1, h2, Post.ret hp S (by simp [Rep, RepP])⟩
theorem o_ne {X : Cx} {W : XK} {k : Nat} (hr : Room k X.A) : Op2 X W (compareOp .NotEq) (rd2 (eqP true)) := by
  refine op2_of (op_ne.or (op_neD hr.units)) fun m H h p q v u Q S r1 r2 hp => ?_
  obtain ⟨h1 | ⟨h1, h2⟩, hp⟩ := chk_post hp
  · obtain ⟨a, b, rfl, rfl⟩ := twoS_of h1
    simp only [RdP, RepP] at r1 r2
    subst r1 r2
    exact .inl ⟨rfl, Post.ret hp S (by simp only [Rep, RepP, PyData.eqv, dec_str]; rfl)⟩
  · exact .inr ⟨p, q, r1.dp (shaped_noDict h1), r2.dp (shaped_noDict h2), h1, h2, Post.ret hp S (by simp [Rep, RepP])⟩
/-- one sign, or a text, in a text -/
def inTxt (x y : Str) : Bool := !(Builtin.Str.occurrences y x 0 y.length 1).isEmpty
def isN : D → Bool
  | .p .none => true
  | _ => false
/-- is None: the right side None -/
def isND (neg : Bool) : D → D → M D := fun x y => match y with
  | .p .none => ret (.p (.bool (if neg then !isN x else isN x)))
  | _ => bad
theorem isN_v {w : World} {K : PySem.W.Frag} {mg : Str → Option Value} {m : Mm} {H : Hp} {d : D} {v : V} (r : Rep w K mg m H d v) : decide (v = .non) = isN d := by
  cases d with
  | p x =>
    simp only [Rep] at r
    cases x with
    | none => simp only [RepP] at r; subst r; rfl
    | bool b => simp only [RepP] at r; subst r; rfl
    | int b => simp only [RepP] at r; subst r; rfl
    | str b => simp only [RepP] at r; subst r; rfl
    | list xs => simp only [RepP] at r; obtain ⟨a, _, rfl, _⟩ := r; rfl
    | tuple xs => simp only [RepP] at r; obtain ⟨a, _, rfl, _⟩ := r; rfl
    | dict xs => simp only [RepP] at r; obtain ⟨a, _, _, rfl, _⟩ := r; rfl
  | cell n => simp only [Rep] at r; obtain ⟨a, rfl, _⟩ := r; rfl
  | mix n => simp only [Rep] at r; obtain ⟨a, _, rfl, _⟩ := r; rfl
  | glob n => simp only [Rep] at r; obtain ⟨a, rfl, _⟩ := r; rfl
  | ty n => simp only [Rep] at r; subst r; rfl
  | fob c fs => simp only [Rep] at r; obtain ⟨a, _, _, _, rfl, _⟩ := r; rfl
theorem o_isN {X : Cx} {W : XK} : Op2 X W (compareOp .Is) (isND false) := by
  intro pins s σ H x y v u Q I rx ry h
  obtain ⟨m, h0, d, e, S, r1, r2, hp⟩ := h
  refine op_isN pins s σ H x y v u Q I rx ry ?_
  cases e with
  | p e =>
    cases e with
    | none =>
      simp only [Rep, RepP] at r2
      refine ⟨r2, ?_⟩
      rw [isN_v r1]
      exact Post.ret hp S (by simp [Rep, RepP])
    | _ => exact hp.elim
  | _ => exact hp.elim
theorem o_notN {X : Cx} {W : XK} : Op2 X W (compareOp .IsNot) (isND true) := by
  intro pins s σ H x y v u Q I rx ry h
  obtain ⟨m, h0, d, e, S, r1, r2, hp⟩ := h
  refine op_notN pins s σ H x y v u Q I rx ry ?_
  cases e with
  | p e =>
    cases e with
    | none =>
      simp only [Rep, RepP] at r2
      refine ⟨r2, ?_⟩
      rw [isN_v r1]
      exact Post.ret hp S (by simp [Rep, RepP])
    | _ => exact hp.elim
  | _ => exact hp.elim
/-- is True, is False of two truths -/
def isBD (neg : Bool) : D → D → M D := fun x y => match x, y with
  | .p (.bool a), .p (.bool b) => ret (.p (.bool (if neg then !decide (a = b) else decide (a = b))))
  | _, _ => bad
theorem o_isB {X : Cx} {W : XK} : Op2 X W (compareOp .Is) (isBD false) := by
  intro pins s σ H x y v u Q I rx ry h
  obtain ⟨m, h0, d, e, S, r1, r2, hp⟩ := h
  refine op_isBl pins s σ H x y v u Q I rx ry ?_
  cases d with
  | p d =>
    cases d with
    | bool a =>
      cases e with
      | p e =>
        cases e with
        | bool b =>
          simp only [Rep, RepP] at r1 r2
          exact ⟨a, b, r1, r2, Post.ret hp S (by simp [Rep, RepP])⟩
        | _ => exact hp.elim
      | _ => exact hp.elim
    | _ => exact hp.elim
  | _ => exact hp.elim
theorem o_notB {X : Cx} {W : XK} : Op2 X W (compareOp .IsNot) (isBD true) := by
  intro pins s σ H x y v u Q I rx ry h
  obtain ⟨m, h0, d, e, S, r1, r2, hp⟩ := h
  refine op_notBl pins s σ H x y v u Q I rx ry ?_
  cases d with
  | p d =>
    cases d with
    | bool a =>
      cases e with
      | p e =>
        cases e with
        | bool b =>
          simp only [Rep, RepP] at r1 r2
          exact ⟨a, b, r1, r2, Post.ret hp S (by simp [Rep, RepP])⟩
        | _ => exact hp.elim
      | _ => exact hp.elim
    | _ => exact hp.elim
  | _ => exact hp.elim
end MP
/-! MP3: what data reads as in the machine's heap; built-ins by their values. -/
namespace MP
open PySem PySem.Spec PyProof.Rows L2

mutual
def hasList : PyData → Bool
  | .list _ => true
  | .tuple xs => hasListAll xs
  | .dict kvs => hasListKv kvs
  | _ => false
def hasListAll : List PyData → Bool
  | [] => false
  | x :: xs => hasList x || hasListAll xs
def hasListKv : List (PyData × PyData) → Bool
  | [] => false
  | (_, x) :: xs => hasList x || hasListKv xs
end
theorem hasListKv_eq : ∀ kvs : List (PyData × PyData), hasListKv kvs = hasListAll (kvs.map (·.2))
  | [] => rfl
  | (k, v) :: r => by simp only [hasListKv, List.map_cons, hasListAll, hasListKv_eq r]

theorem reads_key {h : Heap} {k : Key} {u : Value} (e : keyIs k u = true) : Reads h u (keyP k) [] := by
  rcases keyIs_shape e with ⟨i, t, rfl, rfl⟩ | ⟨x, t, rfl, rfl⟩
  · exact .int i t
  · exact .str x t
theorem reads_keys {P : Program} {w : World} {h : Heap} : ∀ {es : List DictEntry} {vs : List (Key × Value)}, Pairs (mixKind P w) es vs → ReadsAll h (es.map (·.key)) (vs.map fun p => keyP p.1) []
  | _, _, .nil => .nil
  | _, _, .cons h1 h2 t => .cons (as := []) (bs := []) (reads_key h1) (reads_keys t)
theorem pairs_vals {P : Program} {w : World} : ∀ {es : List DictEntry} {vs : List (Key × Value)}, Pairs (mixKind P w) es vs → es.map (·.val) = vs.map (·.2)
  | _, _, .nil => rfl
  | _, _, .cons h1 h2 t => by simp only [List.map_cons, h2, pairs_vals t]
theorem kv_keys : ∀ {kk : List (Key × V)} {vs : List (Key × Value)}, KV kk vs → kk.map (fun p => keyP p.1) = vs.map fun p => keyP p.1
  | _, _, .nil => rfl
  | _, _, .cons h t => by simp only [List.map_cons, h.1, kv_keys t]
theorem kv_vals : ∀ {kk : List (Key × V)} {vs : List (Key × Value)}, KV kk vs → Vals (kk.map (·.2)) (vs.map (·.2))
  | _, _, .nil => .nil
  | _, _, .cons h t => .cons h.2 (kv_vals t)
theorem reads_flat {h : Heap} : ∀ {ks : List Key} {us : List Value}, Vals (ks.map kV) us → ReadsAll h us (ks.map keyP) []
  | [], _, .nil => .nil
  | k :: ks, _, .cons r t => .cons (as := []) (bs := []) (by
      cases k with
      | inl i => obtain ⟨t, rfl⟩ := r; exact .int i t
      | inr x => obtain ⟨t, rfl⟩ := r; exact .str x t) (reads_flat t)

section
variable {X : Cx} {pins : List (Addr × Obj)} {σ : L2.St} {H : Hp} {s : Shared} {m : Mm}
mutual
/-- a written key is one -/
theorem key_is (I : Inv X pins σ H s) : ∀ (k : NestedKey) (v : V) (u : Value), RepP X.w X.K m H k.data v → RelV v u → NestedIs s.heap k u
  | .none, v, u, h, r => by simp only [NestedKey.data, RepP] at h; subst h; cases r; exact .none
  | .num i, v, u, h, r => by simp only [NestedKey.data, RepP] at h; subst h; obtain ⟨t, rfl⟩ := r; exact .int i t
  | .text x, v, u, h, r => by simp only [NestedKey.data, RepP] at h; subst h; obtain ⟨t, rfl⟩ := r; exact .text x t
  | .tup ks, v, u, h, r => by
    simp only [NestedKey.data, RepP] at h
    obtain ⟨a, vs, rfl, f, h⟩ := h
    cases r
    obtain ⟨its, rv, ⟨o, ho, hc, n, hd⟩, _⟩ := I.tuple f.sq
    exact .tup ho hc hd (by simpa using keys_is I ks vs its h rv)
theorem keys_is (I : Inv X pins σ H s) : ∀ (ks : List NestedKey) (vs : List V) (us : List Value), RepPs X.w X.K m H (NestedKey.datas ks) vs → Vals vs us → NestedAll s.heap ks us
  | [], vs, us, h, r => by simp only [NestedKey.datas, RepPs] at h; subst h; cases r; exact .nil
  | k :: ks, vs, us, h, r => by
    simp only [NestedKey.datas, RepPs] at h
    obtain ⟨v, r', rfl, h1, h2⟩ := h
    cases r with
    | cons r1 r2 => exact .cons (key_is I k v _ h1 r1) (keys_is I ks r' _ h2 r2)
end
mutual
theorem key_reads (I : Inv X pins σ H s) : ∀ (k : NestedKey) (v : V) (u : Value), RepP X.w X.K m H k.data v → RelV v u → Reads s.heap u k.data []
  | .none, v, u, h, r => by simp only [NestedKey.data, RepP] at h; subst h; cases r; exact .none
  | .num i, v, u, h, r => by simp only [NestedKey.data, RepP] at h; subst h; obtain ⟨t, rfl⟩ := r; exact .int i t
  | .text x, v, u, h, r => by simp only [NestedKey.data, RepP] at h; subst h; obtain ⟨t, rfl⟩ := r; exact .str x t
  | .tup ks, v, u, h, r => by
    simp only [NestedKey.data, RepP] at h ⊢
    obtain ⟨a, vs, rfl, f, h⟩ := h
    cases r
    obtain ⟨its, rv, ⟨o, ho, hc, n, hd⟩, _⟩ := I.tuple f.sq
    exact .tuple ho hc hd (by simpa using keys_reads I ks vs its h rv)
theorem keys_reads (I : Inv X pins σ H s) : ∀ (ks : List NestedKey) (vs : List V) (us : List Value), RepPs X.w X.K m H (NestedKey.datas ks) vs → Vals vs us → ReadsAll s.heap us (NestedKey.datas ks) []
  | [], vs, us, h, r => by simp only [NestedKey.datas, RepPs] at h ⊢; subst h; cases r; exact .nil
  | k :: ks, vs, us, h, r => by
    simp only [NestedKey.datas, RepPs] at h ⊢
    obtain ⟨v, r', rfl, h1, h2⟩ := h
    cases r with
    | cons r1 r2 => exact .cons (as := []) (bs := []) (key_reads I k v _ h1 r1) (keys_reads I ks r' _ h2 r2)
end
theorem keys_list (I : Inv X pins σ H s) : ∀ {xs : List (NestedKey × Addr × Value)}, RepPs X.w X.K m H (keysD xs) (keysV xs) → ReadsAll s.heap (xs.map fun x => Value.ref x.2.1) (keysD xs) []
  | [], _ => .nil
  | x :: xs, h => by
    simp only [keysD, keysV, List.map_cons, RepPs] at h ⊢
    obtain ⟨v, r', e, h1, h2⟩ := h
    obtain ⟨rfl, rfl⟩ := List.cons.inj e
    exact .cons (as := []) (bs := []) (key_reads I x.1 _ _ h1 rfl) (keys_list I h2)
/-- a dict whose keys are tuples, as the machine has it -/
theorem dn_raw (I : Inv X pins σ H s) {a : Addr} {xs : List (NestedKey × Addr × Value)} (d : DN X.w H a xs) : ∃ o es ep, s.heap.get? a = some o ∧ o.ExactDict ∧ o.data = .dict es ep ∧ es.toList = xs.map (entN X.w) :=
  let ⟨ep, e⟩ := d.at_
  let ⟨o, es, r⟩ := (show ObjOk X.prog X.w H s.heap a (.ext _) from I.hok a _ e).1
  ⟨o, es, ep, r⟩
mutual
theorem RepP.reads (I : Inv X pins σ H s) : ∀ (x : PyData) (v : V) (u : Value), RepP X.w X.K m H x v → RelV v u → ∃ as, Reads s.heap u x as ∧ (hasList x = false → ∀ b ∈ as, (b == sysModules) = false)
  | .none, v, u, h, r => by simp only [RepP] at h; subst h; cases r; exact ⟨_, .none, fun _ _ hb => by cases hb⟩
  | .bool b, v, u, h, r => by simp only [RepP] at h; subst h; cases r; exact ⟨_, .bool b, fun _ _ hb => by cases hb⟩
  | .int i, v, u, h, r => by simp only [RepP] at h; subst h; obtain ⟨t, rfl⟩ := r; exact ⟨_, .int i t, fun _ _ hb => by cases hb⟩
  | .str x, v, u, h, r => by simp only [RepP] at h; subst h; obtain ⟨t, rfl⟩ := r; exact ⟨_, .str x t, fun _ _ hb => by cases hb⟩
  | .list xs, v, u, h, r => by
    simp only [RepP] at h
    obtain ⟨a, vs, rfl, f, h⟩ := h
    cases r
    obtain ⟨its, rv, ⟨o, n, ho, hc, _, hd⟩, _⟩ := I.list f.sq
    obtain ⟨as, hr, _⟩ := RepPs.reads I xs vs its h rv
    exact ⟨_, .list ho hc hd hr, fun e => by simp [hasList] at e⟩
  | .tuple xs, v, u, h, r => by
    simp only [RepP] at h
    obtain ⟨a, vs, rfl, f, h⟩ := h
    cases r
    obtain ⟨its, rv, ⟨o, ho, hc, n, hd⟩, _⟩ := I.tuple f.sq
    obtain ⟨as, hr, ha⟩ := RepPs.reads I xs vs its h rv
    exact ⟨_, .tuple ho hc hd hr, fun e => ha (by simpa only [hasList] using e)⟩
  | .dict kvs, v, u, h, r => by
    simp only [RepP] at h
    obtain ⟨a, kv, vs, rfl, ⟨_, f⟩, hk, h⟩ := h
    cases r
    rcases f with ⟨kk, _, e, e1, e2⟩ | ⟨xs, dn, e1, e2, e3⟩
    · obtain ⟨_, hs, us, hkv, o, es, ep, ho, hx, hd, _, hp, _⟩ := dk_rd I.hok (.inl e)
      subst e2
      obtain ⟨as, hr, ha⟩ := RepVs.reads I kvs _ (es.toList.map (·.val)) h (by rw [pairs_vals hp]; exact kv_vals hkv)
      refine ⟨_, .dict ho hx.1 hd (as := []) (by rw [← e1, kv_keys hkv]; exact reads_keys hp) hr, fun q b hb => ?_⟩
      simp only [List.append_nil, List.cons_append, List.nil_append, List.mem_cons] at hb
      rcases hb with rfl | hb
      · exact hs
      · exact ha (by simpa only [hasList] using q) b hb
    · obtain ⟨o, es, ep, ho, hx, hd, he⟩ := dn_raw I dn
      have hs := dn.sys
      subst e2
      have hk' := repKs_iff.mp hk
      rw [← e1] at hk'
      obtain ⟨as, hr, ha⟩ := RepVs.reads I kvs _ (es.toList.map (·.val)) h (by rw [he, List.map_map]; exact e3)
      refine ⟨_, .dict ho hx.1 hd (as := []) (by rw [← e1, he, List.map_map]; exact keys_list I hk') hr, fun q b hb => ?_⟩
      simp only [List.append_nil, List.cons_append, List.nil_append, List.mem_cons] at hb
      rcases hb with rfl | hb
      · exact hs
      · exact ha (by simpa only [hasList] using q) b hb
theorem RepPs.reads (I : Inv X pins σ H s) : ∀ (xs : List PyData) (vs : List V) (us : List Value), RepPs X.w X.K m H xs vs → Vals vs us → ∃ as, ReadsAll s.heap us xs as ∧ (hasListAll xs = false → ∀ b ∈ as, (b == sysModules) = false)
  | [], vs, us, h, r => by simp only [RepPs] at h; subst h; cases r; exact ⟨_, .nil, fun _ _ hb => by cases hb⟩
  | x :: xs, vs, us, h, r => by
    simp only [RepPs] at h
    obtain ⟨v, r', rfl, h1, h2⟩ := h
    cases r with
    | cons r1 r2 =>
      obtain ⟨as, q1, a1⟩ := RepP.reads I x v _ h1 r1
      obtain ⟨bs, q2, a2⟩ := RepPs.reads I xs r' _ h2 r2
      refine ⟨_, .cons q1 q2, fun e b hb => ?_⟩
      simp only [hasListAll, Bool.or_eq_false_iff] at e
      rcases List.mem_append.mp hb with hb | hb
      · exact a1 e.1 b hb
      · exact a2 e.2 b hb
theorem RepVs.reads (I : Inv X pins σ H s) : ∀ (xs : List (PyData × PyData)) (vs : List V) (us : List Value), RepVs X.w X.K m H xs vs → Vals vs us → ∃ as, ReadsAll s.heap us (xs.map (·.2)) as ∧ (hasListKv xs = false → ∀ b ∈ as, (b == sysModules) = false)
  | [], vs, us, h, r => by simp only [RepVs] at h; subst h; cases r; exact ⟨_, .nil, fun _ _ hb => by cases hb⟩
  | (k, x) :: xs, vs, us, h, r => by
    simp only [RepVs] at h
    obtain ⟨v, r', rfl, h1, h2⟩ := h
    cases r with
    | cons r1 r2 =>
      obtain ⟨as, q1, a1⟩ := RepP.reads I x v _ h1 r1
      obtain ⟨bs, q2, a2⟩ := RepVs.reads I xs r' _ h2 r2
      refine ⟨_, .cons q1 q2, fun e b hb => ?_⟩
      simp only [hasListKv, Bool.or_eq_false_iff] at e
      rcases List.mem_append.mp hb with hb | hb
      · exact a1 e.1 b hb
      · exact a2 e.2 b hb
end
theorem RdP.reads (I : Inv X pins σ H s) {x : PyData} {v : V} {u : Value} (h : RdP X.w X.K m H x v) (r : RelV v u) : ∃ as, Reads s.heap u x as ∧ (hasList x = false → ∀ b ∈ as, (b == sysModules) = false) := by
  cases x with
  | list xs =>
    obtain ⟨a, vs, rfl, f, h⟩ := h
    cases r
    obtain ⟨its, rv, ⟨o, n, ho, hc, _, hd⟩, _⟩ := I.list f
    obtain ⟨as, hr, _⟩ := RepPs.reads I xs vs its h rv
    exact ⟨_, .list ho hc hd hr, fun e => by simp [hasList] at e⟩
  | dict kvs =>
    obtain ⟨a, kv, vs, rfl, f, hk, h⟩ := h
    cases r
    have h' := repVs_iff.mpr h
    have hk := repKs_iff.mpr hk
    rcases f with ⟨kk, e, e1, e2⟩ | ⟨xs, dn, e1, e2, e3⟩
    · obtain ⟨_, hs, us, hkv, o, es, ep, ho, hx, hd, _, hp, _⟩ := dk_rd I.hok (.inl e)
      subst e2
      obtain ⟨as, hr, ha⟩ := RepVs.reads I kvs _ (es.toList.map (·.val)) h' (by rw [pairs_vals hp]; exact kv_vals hkv)
      refine ⟨_, .dict ho hx.1 hd (as := []) (by rw [← e1, kv_keys hkv]; exact reads_keys hp) hr, fun q b hb => ?_⟩
      simp only [List.append_nil, List.cons_append, List.nil_append, List.mem_cons] at hb
      rcases hb with rfl | hb
      · exact hs
      · exact ha (by simpa only [hasList] using q) b hb
    · obtain ⟨o, es, ep, ho, hx, hd, he⟩ := dn_raw I dn
      have hs := dn.sys
      subst e2
      have hk' := repKs_iff.mp hk
      rw [← e1] at hk'
      obtain ⟨as, hr, ha⟩ := RepVs.reads I kvs _ (es.toList.map (·.val)) h' (by rw [he, List.map_map]; exact e3)
      refine ⟨_, .dict ho hx.1 hd (as := []) (by rw [← e1, he, List.map_map]; exact keys_list I hk') hr, fun q b hb => ?_⟩
      simp only [List.append_nil, List.cons_append, List.nil_append, List.mem_cons] at hb
      rcases hb with rfl | hb
      · exact hs
      · exact ha (by simpa only [hasList] using q) b hb
  | none => exact RepP.reads (m := m) I _ _ _ h r
  | bool b => exact RepP.reads (m := m) I _ _ _ h r
  | int b => exact RepP.reads (m := m) I _ _ _ h r
  | str b => exact RepP.reads (m := m) I _ _ _ h r
  | tuple b => exact RepP.reads (m := m) I _ _ _ h r
end

/-! ### calls of built-ins -/
def CallS (X : Cx) (W : XK) (f : Value) (g : List D → M D) : Prop :=
  CallR X f fun vs H Q => ∃ m h ds, Sim X.w X.K X.mg m H h ∧ RepA X.w X.K X.mg m H ds vs ∧ Post (tx X W) m H (Rep X.w X.K X.mg) (g ds h) Q
def app (g : List D → M D) (fa : Ev → M (List D)) : Ev → M D := fun μ => bnd (fa μ) g
section
variable {X : Cx} {W : XK} {e : Expr} {es : List Expr} {f : Ev → M (List D)} {x : Str} {p pos : Pos}
theorem es_callB {id : String} {g : List D → M D} (hc : CallS X W (.builtin id) g) (hg : Gl X x) (hm : X.mg x = none) (hv : bootBuiltins x = some (.builtin id)) (ha : AS X W (e :: es) f) (hn : x ≠ "__name__" := by decide) (hdb : (x == ("__debug__" : Str)) = false := by decide)
    (he : starEach (e :: es) X.env = (false, eval e X.env) :: starEach es X.env := by rfl) (hpl : (backTo pos (starEach es X.env)).any (·.1) = false := by rfl) : ES X W (.Call (.Name x p) (e :: es) [] pos) (app g f) :=
  pe_imp (pe_callB hc hg hm hv ha hn hdb he hpl) fun σ H Q ⟨μ, m, h, S, E, hp⟩ => ⟨μ, m, h, S, E, Post.bnd hp fun ds h1 m1 H1 vs _ S1 X1 r1 hp1 => ⟨m1, h1, ds, S1, r1, hp1⟩⟩
theorem es_callTy {T : String} {g : List D → M D} (hc : CallS X W (.type T) g) (hg : Gl X x) (hm : X.mg x = none) (hv : bootBuiltins x = some (.type T)) (ha : AS X W (e :: es) f) (hn : x ≠ "__name__" := by decide) (hdb : (x == ("__debug__" : Str)) = false := by decide)
    (he : starEach (e :: es) X.env = (false, eval e X.env) :: starEach es X.env := by rfl) (hpl : (backTo pos (starEach es X.env)).any (·.1) = false := by rfl) : ES X W (.Call (.Name x p) (e :: es) [] pos) (app g f) :=
  pe_imp (pe_callTy hc hg hm hv ha hn hdb he hpl) fun σ H Q ⟨μ, m, h, S, E, hp⟩ => ⟨μ, m, h, S, E, Post.bnd hp fun ds h1 m1 H1 vs _ S1 X1 r1 hp1 => ⟨m1, h1, ds, S1, r1, hp1⟩⟩
/-- one argument, read as data -/
def one (g : PyData → M D) : List D → M D
  | [d] => rd1 g d
  | _ => bad
theorem callS_one {f : Value} {r : List V → Hp → VK → Prop} {g : PyData → M D} (ho : CallR X f r)
    (hg : ∀ m H h q v Q, Sim X.w X.K X.mg m H h → RdP X.w X.K m H q v → Post (tx X W) m H (Rep X.w X.K X.mg) (g q h) Q → r [v] H Q) : CallS X W f (one g) := by
  intro pins s σ H vs us Q I rv hh
  obtain ⟨m, h, ds, S, r, hp⟩ := hh
  cases ds with
  | nil => exact hp.elim
  | cons d ds =>
    cases ds with
    | cons _ _ => exact hp.elim
    | nil =>
      simp only [RepA] at r
      obtain ⟨v, _, rfl, r1, rfl⟩ := r
      obtain ⟨q, rq, hp⟩ := rd1_post (T := tx X W) S r1 hp
      exact ho pins s σ H [v] us Q I rv (hg m H h q v Q S rq hp)
/-! len -/
def lenP : PyData → M D
  | .str z => chk (z.length ≤ sizeLine) (ret (.p (.int z.length)))
  | .list xs => ret (.p (.int xs.length))
  | .tuple xs => ret (.p (.int xs.length))
  | _ => bad
theorem c_len : CallS X W (.builtin "len") (one lenP) := by
  refine callS_one (call_len_seq.or call_len_str) fun m H h q v Q S r hp => ?_
  cases q with
  | str z =>
    simp only [RdP, RepP] at r
    subst r
    obtain ⟨hz, hp⟩ := chk_post hp
    exact .inr ⟨z, rfl, hz, Post.ret hp S (by simp [Rep, RepP])⟩
  | list xs =>
    obtain ⟨a, vs, rfl, f, r⟩ := r
    refine .inl ⟨a, vs, rfl, .inl f, ?_⟩
    rw [r.length]
    exact Post.ret hp S (by simp [Rep, RepP])
  | tuple xs =>
    simp only [RdP, RepP] at r
    obtain ⟨a, vs, rfl, f, r⟩ := r
    refine .inl ⟨a, vs, rfl, .inr f.sq, ?_⟩
    rw [r.length]
    exact Post.ret hp S (by simp [Rep, RepP])
  | _ => exact hp.elim
/-! abs, int -/
def absP : PyData → M D
  | .int i => ret (.p (.int (if i < 0 then -i else i)))
  | _ => bad
theorem c_abs : CallS X W (.builtin "abs") (one absP) := by
  refine callS_one call_abs fun m H h q v Q S r hp => ?_
  cases q with
  | int i =>
    simp only [RdP, RepP] at r
    subst r
    exact ⟨i, rfl, Post.ret hp S (by simp [Rep, RepP])⟩
  | _ => exact hp.elim
def intOf : PyData → M D
  | .int i => ret (.p (.int i))
  | .bool k => ret (.p (.int (if k then 1 else 0)))
  | _ => bad
theorem c_int : CallS X W (.type "int") (one intOf) := by
  refine callS_one call_int1 fun m H h q v Q S r hp => ?_
  cases q with
  | int i =>
    simp only [RdP, RepP] at r
    subst r
    exact .inl ⟨i, rfl, Post.ret hp S (by simp [Rep, RepP])⟩
  | bool i =>
    simp only [RdP, RepP] at r
    subst r
    exact .inr ⟨i, rfl, Post.ret hp S (by simp [Rep, RepP])⟩
  | _ => exact hp.elim
/-! list(x): read only, or a cell -/
def listOf : PyData → M D
  | .list xs => ret (.p (.list xs))
  | .tuple xs => ret (.p (.list xs))
  | _ => bad
theorem c_list : CallS X W (.type "list") (one listOf) := by
  refine callS_one call_list_of fun m H h q v Q S r hp => ?_
  cases q with
  | list xs =>
    obtain ⟨a, vs, rfl, f, r⟩ := r
    exact ⟨a, vs, rfl, .inl f, new_lst S r hp⟩
  | tuple xs =>
    simp only [RdP, RepP] at r
    obtain ⟨a, vs, rfl, f, r⟩ := r
    exact ⟨a, vs, rfl, .inr f.sq, new_lst S r hp⟩
  | _ => exact hp.elim
def listOfC : PyData → M D
  | .list xs => fun h => .ok (.cell h.length) (h ++ [.lst (xs.map .p)])
  | .tuple xs => fun h => .ok (.cell h.length) (h ++ [.lst (xs.map .p)])
  | _ => bad
theorem repA_map {w : World} {K : PySem.W.Frag} {mg : Str → Option Value} {m : Mm} {H : Hp} : ∀ {xs : List PyData} {vs : List V}, RepPs w K m H xs vs → RepA w K mg m H (xs.map .p) vs
  | [], vs, h => by simpa only [RepPs, List.map_nil, RepA] using h
  | x :: xs, vs, h => by
    simp only [RepPs] at h
    obtain ⟨v, r, rfl, h1, h2⟩ := h
    simp only [List.map_cons, RepA, Rep]
    exact ⟨v, r, rfl, h1, repA_map h2⟩
theorem new_cell {m : Mm} {H : Hp} {h : Hm} {ds : List D} {vs : List V} {Q : VK} (S : Sim X.w X.K X.mg m H h) (r : RepA X.w X.K X.mg m H ds vs) (hp : Post (tx X W) m H (Rep X.w X.K X.mg) (.ok (.cell h.length) (h ++ [.lst ds])) Q) :
    ∀ p, H p = none → Q (.ref p) (upd H p (.lst vs)) := fun p np => by
  have X1 : Ext m H (m.push p) (upd H p (.lst vs)) := Ext.push S np
  exact hp _ _ _ (S.push np ⟨vs, upd_same, r.mono X1⟩) X1 (by simp only [Rep]; exact ⟨p, rfl, S.push_at⟩)
theorem c_listC : CallS X W (.type "list") (one listOfC) := by
  refine callS_one call_list_of fun m H h q v Q S r hp => ?_
  cases q with
  | list xs =>
    obtain ⟨a, vs, rfl, f, r⟩ := r
    exact ⟨a, vs, rfl, .inl f, new_cell S (repA_map r) hp⟩
  | tuple xs =>
    simp only [RdP, RepP] at r
    obtain ⟨a, vs, rfl, f, r⟩ := r
    exact ⟨a, vs, rfl, .inr f.sq, new_cell S (repA_map r) hp⟩
  | _ => exact hp.elim
/-! tuple(x) -/
def tupOf : PyData → M D
  | .list xs => ret (.p (.tuple xs))
  | .tuple xs => ret (.p (.tuple xs))
  | _ => bad
theorem c_tuple : CallS X W (.type "tuple") (one tupOf) := by
  refine callS_one call_tuple_of fun m H h q v Q S r hp => ?_
  cases q with
  | list xs =>
    obtain ⟨a, vs, rfl, f, r⟩ := r
    exact ⟨a, vs, rfl, .inl ⟨f, new_tup S r hp⟩⟩
  | tuple xs =>
    simp only [RdP, RepP] at r
    obtain ⟨a, vs, rfl, f, r⟩ := r
    exact ⟨a, vs, rfl, .inr ⟨f.sq, Post.ret hp S (by simp only [Rep, RepP]; exact ⟨a, vs, rfl, f, r⟩)⟩⟩
  | _ => exact hp.elim
/-! all, any of truths -/
def bools : List PyData → Option (List Bool)
  | [] => some []
  | .bool b :: r => (bools r).map (b :: ·)
  | _ :: _ => none
theorem bools_rep {w : World} {K : PySem.W.Frag} {m : Mm} {H : Hp} : ∀ {xs : List PyData} {bs : List Bool} {vs : List V}, bools xs = some bs → RepPs w K m H xs vs → vs = bs.map V.bl
  | [], bs, vs, e, r => by
    simp only [bools, Option.some.injEq] at e
    subst e
    simpa only [RepPs, List.map_nil] using r
  | .bool b :: xs, bs, vs, e, r => by
    simp only [bools, Option.map_eq_some_iff] at e
    obtain ⟨cs, e, rfl⟩ := e
    simp only [RepPs, RepP] at r
    obtain ⟨v, r', rfl, rfl, h2⟩ := r
    rw [bools_rep e h2]
    rfl
  | .none :: _, _, _, e, _ => by simp [bools] at e
  | .int _ :: _, _, _, e, _ => by simp [bools] at e
  | .str _ :: _, _, _, e, _ => by simp [bools] at e
  | .list _ :: _, _, _, e, _ => by simp [bools] at e
  | .tuple _ :: _, _, _, e, _ => by simp [bools] at e
  | .dict _ :: _, _, _, e, _ => by simp [bools] at e
def allP : PyData → M D
  | .list xs => match bools xs with
    | some bs => ret (.p (.bool (bs.all id)))
    | none => bad
  | _ => bad
def anyP : PyData → M D
  | .list xs => match bools xs with
    | some bs => ret (.p (.bool (bs.any id)))
    | none => bad
  | _ => bad
theorem c_all (hc : X.calm = true) : CallS X W (.builtin "all") (one allP) := by
  refine callS_one (cr_all hc) fun m H h q v Q S r hp => ?_
  cases q with
  | list xs =>
    obtain ⟨a, vs, rfl, f, r⟩ := r
    simp only [allP] at hp
    cases e : bools xs with
    | none => rw [e] at hp; exact hp.elim
    | some bs =>
      rw [e] at hp
      have := bools_rep e r
      subst this
      exact ⟨a, bs, rfl, f, Post.ret hp S (by simp [Rep, RepP])⟩
  | _ => exact hp.elim
theorem c_any (hc : X.calm = true) : CallS X W (.builtin "any") (one anyP) := by
  refine callS_one (cr_any hc) fun m H h q v Q S r hp => ?_
  cases q with
  | list xs =>
    obtain ⟨a, vs, rfl, f, r⟩ := r
    simp only [anyP] at hp
    cases e : bools xs with
    | none => rw [e] at hp; exact hp.elim
    | some bs =>
      rw [e] at hp
      have := bools_rep e r
      subst this
      exact ⟨a, bs, rfl, f, Post.ret hp S (by simp [Rep, RepP])⟩
  | _ => exact hp.elim
/-! repr -/
def okShow (x : PyData) : Prop := x.showable = true ∧ x.shown.length ≤ sizeLine ∧ x.depth ≤ 60 ∧ (x.hasDict = true → hasList x = false)
instance (x : PyData) : Decidable (okShow x) := by unfold okShow; infer_instance
def reprP (x : PyData) : M D := chk (okShow x) (ret (.p (.str x.shown)))
theorem call_reprD {k : Nat} (hr : Room k X.A) (hgd : X.A.guards = some []) : CallR X (.builtin "repr") fun vs H Q => ∃ v m x, vs = [v] ∧ RdP X.w X.K m H x v ∧ okShow x ∧ Q (.str x.shown) H := by
  intro pins s σ H vs us Q I rv h
  obtain ⟨v, m, x, rfl, r, ⟨h1, h2, h3, h4⟩, q⟩ := h
  obtain ⟨u, rfl, ru⟩ := vals1 rv
  obtain ⟨as, rd, hsys⟩ := r.reads I ru
  have hu : X.A.units + 64 < cLine := hr.units
  have fin : ∀ h' t tk, (∀ b o, s.heap.get? b = some o → h'.get? b = some o) → EP X pins σ Q (.str x.shown t) { s with heap := h', toks := tk } := fun h' t tk k => ⟨.str x.shown, H, I.kept k, ⟨t, rfl⟩, q⟩
  cases rd with
  | none => exact PySem.P.repr_of_none (fin s.heap _ _ fun _ _ e => e)
  | bool b => exact PySem.P.repr_of_bool (fin s.heap _ _ fun _ _ e => e)
  | int i t => exact PySem.P.repr_of_int (of_decide_eq_true h1) (fin s.heap _ _ fun _ _ e => e)
  | str z t => exact PySem.P.repr_of_str (fin s.heap _ _ fun _ _ e => e) h2
  | list a1 a2 a3 a4 => exact repr_of_reads' (.list a1 a2 a3 a4) h1 (fun e z => absurd (hsys (h4 e) _ z) (by simp)) hgd (by omega) (fun _ _ e => e) fin h2
  | tuple a1 a2 a3 a4 => exact repr_of_reads' (.tuple a1 a2 a3 a4) h1 (fun e z => absurd (hsys (h4 e) _ z) (by simp)) hgd (by omega) (fun _ _ e => e) fin h2
  | dict a1 a2 a3 a4 a5 => exact repr_of_reads' (.dict a1 a2 a3 a4 a5) h1 (fun e z => absurd (hsys (h4 e) _ z) (by simp)) hgd (by omega) (fun _ _ e => e) fin h2
theorem c_repr {k : Nat} (hr : Room k X.A) (hgd : X.A.guards = some []) : CallS X W (.builtin "repr") (one reprP) := by
  refine callS_one (call_reprD hr hgd) fun m H h q v Q S r hp => ?_
  obtain ⟨hz, hp⟩ := chk_post hp
  exact ⟨v, m, q, rfl, r, hz, Post.ret hp S (by simp [Rep, RepP])⟩
/-! isinstance, a built-in class -/
def tyN (h : Hm) : D → Option String
  | .p .none => some "NoneType"
  | .p (.bool _) => some "bool"
  | .p (.int _) => some "int"
  | .p (.str _) => some "str"
  | .p (.list _) => some "list"
  | .p (.tuple _) => some "tuple"
  | .p (.dict _) => some "dict"
  | .mix _ => some "tuple"
  | .cell n => match h[n]? with
    | some (.lst _) => some "list"
    | some (.dct _ _) => some "dict"
    | _ => none
  | _ => none
def isiD : List D → M D
  | [x, .ty n] => fun h => match tyN h x with
    | some t => match kitB t n with
      | some b => .ok (.p (.bool b)) h
      | none => .bad
    | none => .bad
  | _ => bad
theorem fzL_ty {m : Mm} {H : Hp} {a : Addr} {vs : List V} (f : FzL X.K m H a vs) : TyX X.K H (.ref a) (.type "list") := by
  rcases f.sq with (h | ⟨o, h⟩) | ⟨o, its, n, h, hc, _⟩
  · exact .base (.lst h)
  · exact .base (.frz h)
  · exact .kList h hc
theorem fzT_ty {m : Mm} {H : Hp} {a : Addr} {vs : List V} (f : FzT X.K m H a vs) : TyX X.K H (.ref a) (.type "tuple") := by
  rcases f.sq with (h | ⟨o, h⟩) | ⟨o, its, n, h, hc, _⟩
  · exact .base (.tup h)
  · exact .fTuple h
  · exact .kTuple h hc
/-- a value's type: dicts with keys of any depth too -/
def TyY (X : Cx) (H : Hp) (v : V) (t : String) : Prop := TyX X.K H v (.type t) ∨ ∃ a xs, v = .ref a ∧ t = "dict" ∧ DN X.w H a xs
theorem kit_y {pins : List (Addr × Obj)} {σ : L2.St} {H : Hp} {s : Shared} {v : V} {u : Value} {t : String} (I : Inv X pins σ H s) (rx : RelV v u) (ty : TyY X H v t) : ∃ P : Heap → Prop, PySem.W.KitX X.K u (.type t) P ∧ P s.heap ∧ u ≠ .builtin "__main__.__loader__#opaque" := by
  rcases ty with ty | ⟨a, xs, rfl, rfl, dn⟩
  · exact kit_of I rx ty
  · cases rx
    obtain ⟨o, es, ep, ho, hx, hd, he⟩ := dn_raw I dn
    exact ⟨_, PySem.W.kitx_dict, ⟨o, ho, hx.1⟩, fun z => nomatch z⟩
/-- the dicts that are looked at are tracked ones -/
theorem tyN_dict {m : Mm} {H : Hp} {kvs : List (PyData × PyData)} {v : V} (r : RepP X.w X.K m H (.dict kvs) v) : TyY X H v "dict" := by
  simp only [RepP] at r
  obtain ⟨a, kv, vs, rfl, ⟨_, f⟩, _⟩ := r
  rcases f with ⟨kk, _, h, _⟩ | ⟨xs, dn, _⟩
  · exact .inl (.base (.dK h))
  · exact .inr ⟨a, xs, rfl, rfl, dn⟩
theorem tyN_of {m : Mm} {H : Hp} {h : Hm} {d : D} {v : V} {t : String} (S : Sim X.w X.K X.mg m H h) (r : Rep X.w X.K X.mg m H d v) (e : tyN h d = some t) : TyY X H v t := by
  cases d with
  | p x =>
    simp only [Rep] at r
    cases x with
    | none => simp only [RepP] at r; subst r; cases e; exact .inl (.base .non)
    | bool b => simp only [RepP] at r; subst r; cases e; exact .inl (.base (.bl b))
    | int b => simp only [RepP] at r; subst r; cases e; exact .inl (.base (.int b))
    | str b => simp only [RepP] at r; subst r; cases e; exact .inl (.base (.str b))
    | list xs => simp only [RepP] at r; obtain ⟨a, vs, rfl, f, _⟩ := r; cases e; exact .inl (fzL_ty f)
    | tuple xs => simp only [RepP] at r; obtain ⟨a, vs, rfl, f, _⟩ := r; cases e; exact .inl (fzT_ty f)
    | dict kvs => cases e; exact tyN_dict (by simpa only [RepP] using r)
  | cell n =>
    simp only [Rep] at r
    obtain ⟨a, rfl, ha⟩ := r
    simp only [tyN] at e
    cases q : h[n]? with
    | none => rw [q] at e; cases e
    | some c =>
      rw [q] at e
      have cr := S.at_ n a c ha q
      cases c with
      | lst xs => cases e; obtain ⟨vs, hv, _⟩ := cr; exact .inl (.base (.lst hv))
      | dct t kvs =>
        cases e
        obtain ⟨vs, _, hv⟩ := cr
        rcases hv with ⟨_, kk, hv, _⟩ | ⟨_, xs, dn, _⟩
        · exact .inl (.base (.dK hv))
        · exact .inr ⟨a, xs, rfl, rfl, dn⟩
      | obj cls fs => cases e
  | mix xs => simp only [Rep] at r; obtain ⟨a, vs, rfl, f, _⟩ := r; cases e; exact .inl (fzT_ty f)
  | glob x => cases e
  | ty n => cases e
  | fob c fs => cases e
end
end MP
/-! MP4: isinstance, subscripts, slices, methods of built-in classes, in. -/
namespace MP
open PySem PySem.Spec PyProof.Rows L2
section
variable {X : Cx} {W : XK} {a b e o : Expr} {es : List Expr} {fa fb fo : Ev → M D} {f : Ev → M (List D)} {pos : Pos}

theorem kit_rep {pins : List (Addr × Obj)} {σ : L2.St} {H : Hp} {s : Shared} {m : Mm} {h : Hm} {d : D} {v : V} {u : Value} {t : String} (I : Inv X pins σ H s) (S : Sim X.w X.K X.mg m H h) (r : Rep X.w X.K X.mg m H d v) (rx : RelV v u) (e : tyN h d = some t) :
    ∃ P : Heap → Prop, PySem.W.KitX X.K u (.type t) P ∧ P s.heap ∧ u ≠ .builtin "__main__.__loader__#opaque" := kit_y I rx (tyN_of S r e)
theorem c_isi : CallS X W (.builtin "isinstance") isiD := by
  intro pins s σ H vs us Q I rv hh
  obtain ⟨m, h, ds, S, r, hp⟩ := hh
  unfold isiD at hp
  split at hp
  · rename_i x n
    simp only [RepA] at r
    obtain ⟨v, _, rfl, r1, w, _, rfl, r2, rfl⟩ := r
    obtain ⟨u1, u2, rfl, q1, q2⟩ := vals2 rv
    simp only [Rep] at r2
    subst r2
    cases q2
    cases e1 : tyN h x with
    | none => rw [e1] at hp; exact hp.elim
    | some t =>
      rw [e1] at hp
      simp only at hp
      cases e2 : kitB t n with
      | none => rw [e2] at hp; exact hp.elim
      | some k =>
        rw [e2] at hp
        obtain ⟨P, Z, p, hx⟩ := kit_rep I S r1 q1 e1
        exact PySem.W.kia_one Z I.kIn p (kit_ty e2) hx fun tk => ⟨.bl k, H, I.tok tk, rfl, hp m H _ S Ext.refl (by simp [Rep, RepP])⟩
  · exact hp.elim
/-- isinstance's answers -/
def isiT (t n : String) : Bool := t == n || (t == "bool" && n == "int")
theorem kitB_some : ∀ t ∈ ["NoneType", "bool", "int", "str", "list", "tuple", "dict"], ∀ n ∈ ["bool", "int", "str", "list", "tuple", "dict"], kitB t n = some (isiT t n) := by decide +kernel
theorem tyN_mem {h : Hm} {d : D} {t : String} (e : tyN h d = some t) : t ∈ ["NoneType", "bool", "int", "str", "list", "tuple", "dict"] := by
  cases d with
  | p x => cases x <;> cases e <;> decide
  | cell n =>
    simp only [tyN] at e
    split at e
    · cases e; decide
    · cases e; decide
    · cases e
  | mix xs => cases e; decide
  | glob x => cases e
  | ty n => cases e
  | fob c fs => cases e
theorem isiD_eq {h : Hm} {d : D} {t n : String} (e : tyN h d = some t) (hn : n ∈ ["bool", "int", "str", "list", "tuple", "dict"] := by decide) : isiD [d, .ty n] h = .ok (.p (.bool (isiT t n))) h := by
  simp only [isiD, e, kitB_some t (tyN_mem e) n hn]

/-! ### subscripts -/
def atP (xs : List PyData) (i : Int) : M D := match atI xs i with
  | some x => ret (.p x)
  | none => bad
def idxD (x i : D) : M D := match i with
  | .p (.int i) => (match x with
    | .p (.list xs) => atP xs i
    | .p (.tuple xs) => atP xs i
    | .p (.str z) => chk (z.length ≤ sizeLine) (match atI z.cps.toList i with
      | some c => ret (.p (.str ⟨#[c]⟩))
      | none => bad)
    | .mix xs => (match atI xs i with
      | some x => ret x
      | none => bad)
    | .cell n => fun h => match h[n]? with
      | some (.lst xs) => (match atI xs i with
        | some x => .ok x h
        | none => .bad)
      | _ => .bad
    | _ => bad)
  | _ => bad
theorem repPs_at {w : World} {K : PySem.W.Frag} {m : Mm} {H : Hp} : ∀ {xs : List PyData} {vs : List V} {j : Nat} {x : PyData}, RepPs w K m H xs vs → xs[j]? = some x → ∃ v, vs[j]? = some v ∧ RepP w K m H x v
  | [], _, _, _, _, e => by simp at e
  | y :: ys, vs, 0, x, r, e => by
    simp only [RepPs] at r
    obtain ⟨v, r', rfl, h1, _⟩ := r
    simp only [List.getElem?_cons_zero, Option.some.injEq] at e
    subst e
    exact ⟨v, rfl, h1⟩
  | y :: ys, vs, j + 1, x, r, e => by
    simp only [RepPs] at r
    obtain ⟨v, r', rfl, _, h2⟩ := r
    obtain ⟨w, q, z⟩ := repPs_at (j := j) h2 (by simpa using e)
    exact ⟨w, by simpa using q, z⟩
theorem repA_at {w : World} {K : PySem.W.Frag} {mg : Str → Option Value} {m : Mm} {H : Hp} : ∀ {xs : List D} {vs : List V} {j : Nat} {x : D}, RepA w K mg m H xs vs → xs[j]? = some x → ∃ v, vs[j]? = some v ∧ Rep w K mg m H x v
  | [], _, _, _, _, e => by simp at e
  | y :: ys, vs, 0, x, r, e => by
    simp only [RepA] at r
    obtain ⟨v, r', rfl, h1, _⟩ := r
    simp only [List.getElem?_cons_zero, Option.some.injEq] at e
    subst e
    exact ⟨v, rfl, h1⟩
  | y :: ys, vs, j + 1, x, r, e => by
    simp only [RepA] at r
    obtain ⟨v, r', rfl, _, h2⟩ := r
    obtain ⟨w, q, z⟩ := repA_at (j := j) h2 (by simpa using e)
    exact ⟨w, by simpa using q, z⟩
theorem atI_of {α β : Type} {xs : List α} {ys : List β} (hl : ys.length = xs.length) {i : Int} {x : α} (e : atI xs i = some x) (P : β → Prop) (h : ∀ j : Nat, xs[j]? = some x → ∃ y, ys[j]? = some y ∧ P y) : ∃ y, atI ys i = some y ∧ P y := by
  unfold atI at e ⊢
  rw [hl]
  cases q : ixN xs.length i with
  | none => rw [q] at e; cases e
  | some j =>
    rw [q] at e
    obtain ⟨y, h1, h2⟩ := h j e
    exact ⟨y, h1, h2⟩
def Ix2 (X : Cx) (W : XK) (g : D → D → M D) : Prop :=
  IxR X fun v u H Q => ∃ m h x y, Sim X.w X.K X.mg m H h ∧ Rep X.w X.K X.mg m H x v ∧ Rep X.w X.K X.mg m H y u ∧ Post (tx X W) m H (Rep X.w X.K X.mg) (g x y h) Q
theorem ix_imp {r r' : R2} (h : IxR X r) (w : ∀ x y H Q, r' x y H Q → r x y H Q) : IxR X r' := fun value slice pins s σ H x y v u Q I rx ry q => h value slice pins s σ H x y v u Q I rx ry (w x y H Q q)
theorem ix_seqD : Ix2 X W idxD := by
  refine ix_imp ix_seq fun v u H Q ⟨m, h, x, y, S, r1, r2, hp⟩ => ?_
  unfold idxD at hp
  split at hp
  · rename_i i
    simp only [Rep, RepP] at r2
    subst r2
    split at hp
    · rename_i xs
      simp only [Rep, RepP] at r1
      obtain ⟨a, vs, rfl, f, r⟩ := r1
      unfold atP at hp
      cases e : atI xs i with
      | none => rw [e] at hp; exact hp.elim
      | some x =>
        rw [e] at hp
        obtain ⟨w, q, rw⟩ := atI_of r.length e _ fun j => repPs_at r
        exact .inl ⟨a, vs, i, w, rfl, rfl, f.sq, q, Post.ret hp S (by simp only [Rep]; exact rw)⟩
    · rename_i xs
      simp only [Rep, RepP] at r1
      obtain ⟨a, vs, rfl, f, r⟩ := r1
      unfold atP at hp
      cases e : atI xs i with
      | none => rw [e] at hp; exact hp.elim
      | some x =>
        rw [e] at hp
        obtain ⟨w, q, rw⟩ := atI_of r.length e _ fun j => repPs_at r
        exact .inr (.inl ⟨a, vs, i, w, rfl, rfl, f.sq, q, Post.ret hp S (by simp only [Rep]; exact rw)⟩)
    · rename_i z
      simp only [Rep, RepP] at r1
      subst r1
      obtain ⟨hz, hp⟩ := chk_post hp
      cases e : atI z.cps.toList i with
      | none => rw [e] at hp; exact hp.elim
      | some c =>
        rw [e] at hp
        exact .inr (.inr ⟨z, i, c, rfl, rfl, hz, e, Post.ret hp S (by simp [Rep, RepP])⟩)
    · rename_i xs
      simp only [Rep] at r1
      obtain ⟨a, vs, rfl, f, r⟩ := r1
      cases e : atI xs i with
      | none => rw [e] at hp; exact hp.elim
      | some x =>
        rw [e] at hp
        obtain ⟨w, q, rw⟩ := atI_of r.length e _ fun j => repA_at r
        exact .inr (.inl ⟨a, vs, i, w, rfl, rfl, f.sq, q, Post.ret hp S rw⟩)
    · rename_i n
      simp only [Rep] at r1
      obtain ⟨a, rfl, ha⟩ := r1
      cases q : h[n]? with
      | none => rw [q] at hp; exact hp.elim
      | some c =>
        rw [q] at hp
        cases c with
        | lst xs =>
          obtain ⟨vs, hv, r⟩ := S.at_ n a _ ha q
          simp only at hp
          cases e : atI xs i with
          | none => rw [e] at hp; exact hp.elim
          | some x =>
            rw [e] at hp
            obtain ⟨w, q, rw⟩ := atI_of r.length e _ fun j => repA_at r
            exact .inl ⟨a, vs, i, w, rfl, rfl, .of hv, q, hp m H _ S Ext.refl rw⟩
        | _ => exact hp.elim
    · exact hp.elim
  · exact hp.elim
theorem es_ix {g : D → D → M D} (hi : Ix2 X W g) (ha : ES X W a fa) (hb : ES X W b fb) (hs : PlainIx b := by exact fun _ _ => rfl) : ES X W (.Subscript a b pos) (bin g fa fb) :=
  pe_imp (pe_ix hi ha hb hs) fun σ H Q h => rd_bin h

/-! ### slices -/
def cutP {α : Type} (xs : List α) (lo hi : Option Int) : List α := (xs.drop (HT.sIx xs.length 0 lo)).take (HT.sIx xs.length xs.length hi - HT.sIx xs.length 0 lo)
def cutStr (z : Str) (lo hi : Option Int) : Str := ⟨(cutP z.cps.toList lo hi).toArray⟩
def slcP (lo hi : Option Int) : PyData → M D
  | .list xs => ret (.p (.list (cutP xs lo hi)))
  | .tuple xs => ret (.p (.tuple (cutP xs lo hi)))
  | .str z => chk (z.length ≤ sizeLine) (ret (.p (.str (cutStr z lo hi))))
  | _ => bad
theorem RepPs.take {w : World} {K : PySem.W.Frag} {m : Mm} {H : Hp} : ∀ {xs : List PyData} {vs : List V} (n : Nat), RepPs w K m H xs vs → RepPs w K m H (xs.take n) (vs.take n)
  | [], vs, n, r => by simp only [RepPs] at r; subst r; simp [RepPs]
  | x :: xs, vs, 0, r => by simp [RepPs]
  | x :: xs, vs, n + 1, r => by
    simp only [RepPs] at r
    obtain ⟨v, r', rfl, h1, h2⟩ := r
    simp only [List.take_succ_cons, RepPs]
    exact ⟨v, _, rfl, h1, RepPs.take n h2⟩
theorem RepPs.drop {w : World} {K : PySem.W.Frag} {m : Mm} {H : Hp} : ∀ {xs : List PyData} {vs : List V} (n : Nat), RepPs w K m H xs vs → RepPs w K m H (xs.drop n) (vs.drop n)
  | [], vs, n, r => by simp only [RepPs] at r; subst r; simp [RepPs]
  | x :: xs, vs, 0, r => by simpa using r
  | x :: xs, vs, n + 1, r => by
    simp only [RepPs] at r
    obtain ⟨v, r', rfl, h1, h2⟩ := r
    simp only [List.drop_succ_cons]
    exact RepPs.drop n h2
theorem RepPs.cut {w : World} {K : PySem.W.Frag} {m : Mm} {H : Hp} {xs : List PyData} {vs : List V} (lo hi : Option Int) (r : RepPs w K m H xs vs) : RepPs w K m H (cutP xs lo hi) (cutV vs lo hi) := by
  unfold cutP cutV
  rw [← r.length]
  exact (r.drop _).take _
/-- a slice's part -/
def partE (f : Ev → M D) : Ev → M (Option Int) := fun μ => bnd (f μ) fun d => match d with
  | .p (.int i) => ret (some i)
  | _ => bad
def partN : Ev → M (Option Int) := fun _ => ret none
abbrev RelO1 : Mm → Hp → Option Int → Option Int → Prop := fun _ _ a b => b = a
def rdO (T : Tx) (f : Ev → M (Option Int)) : TO := fun σ H Q => ∃ μ m h, Sim T.w T.K T.mg m H h ∧ EnvR T.w T.K T.mg m H μ σ ∧ Post T m H RelO1 (f μ h) Q
abbrev OS (X : Cx) (W : XK) (e : Option Expr) (f : Ev → M (Option Int)) : Prop := PO X e (rdO (tx X W) f)
theorem po_imp {e : Option Expr} {t t' : TO} (h : PO X e t) (w : ∀ σ H Q, t' σ H Q → t σ H Q) : PO X e t' := ⟨fun pins s σ H Q I q => h.run pins s σ H Q I (w σ H Q q)⟩
theorem os_none : OS X W none partN := po_imp po_none fun σ H Q ⟨μ, m, h, S, E, hp⟩ => Post.ret hp S rfl
theorem os_some (he : ES X W e fa) : OS X W (some e) (partE fa) := po_imp (po_some he) fun σ H Q ⟨μ, m, h, S, E, hp⟩ => ⟨μ, m, h, S, E, Post.bnd hp fun d h1 m1 H1 v _ S1 X1 r1 hp1 => by
    cases d with
    | p x =>
      cases x with
      | int i =>
        simp only [Rep, RepP] at r1
        exact ⟨i, r1, Post.ret hp1 S1 rfl⟩
      | _ => exact hp1.elim
    | _ => exact hp1.elim⟩
def slcE (fa : Ev → M D) (fl fh : Ev → M (Option Int)) : Ev → M D := fun μ => bnd (fa μ) fun x => bnd (fl μ) fun lo => bnd (fh μ) fun hi => rd1 (slcP lo hi) x
theorem cutS_eq (z : Str) (lo hi : Option Int) : cutS z lo hi = cutStr z lo hi := by
  unfold cutS cutStr cutP
  have e : z.cps.toList.length = z.length := by simp [PySem.Str.length]
  rw [e]
theorem es_slc {lo hi : Option Expr} {fl fh : Ev → M (Option Int)} {p2 : Pos} (ha : ES X W a fa) (hl : OS X W lo fl) (hh : OS X W hi fh) : ES X W (.Subscript a (.Slice lo hi none p2) pos) (slcE fa fl fh) :=
  pe_imp (pe_slice (sl_list.or (sl_tupA.or sl_str)) ha hl hh) fun σ H Q ⟨μ, m, h, S, E, hp⟩ => ⟨μ, m, h, S, E, Post.bnd hp fun x h1 m1 H1 v _ S1 X1 r1 hp1 =>
    ⟨μ, m1, h1, S1, E.mono X1, Post.bnd hp1 fun l h2 m2 H2 l' _ S2 X2 r2 hp2 => ⟨μ, m2, h2, S2, (E.mono X1).mono X2, Post.bnd hp2 fun u h3 m3 H3 u' _ S3 X3 r3 hp3 => by
      subst r2 r3
      obtain ⟨q, r, hp4⟩ := rd1_post (T := tx X W) S3 ((r1.mono X2).mono X3) hp3
      unfold slcP at hp4
      split at hp4
      · obtain ⟨a, vs, rfl, f, r⟩ := r
        exact .inl ⟨a, vs, rfl, f, new_lst S3 (r.cut _ _) hp4⟩
      · rename_i xs
        simp only [RdP, RepP] at r
        obtain ⟨a, vs, rfl, f, r⟩ := r
        refine .inr (.inl ⟨a, vs, rfl, f.sq, fun e => ?_, fun _ => new_tup S3 (r.cut _ _) hp4⟩)
        have : cutP xs l' u' = xs := by
          unfold cutP
          rw [← r.length, e.1, e.2, r.length]
          simp
        rw [this] at hp4
        exact Post.ret hp4 S3 (by simp only [Rep, RepP]; exact ⟨a, vs, rfl, f, r⟩)
      · simp only [RdP, RepP] at r
        subst r
        obtain ⟨hz, hp4⟩ := chk_post hp4
        refine .inr (.inr ⟨_, rfl, hz, ?_⟩)
        rw [cutS_eq]
        exact Post.ret hp4 S3 (by simp [Rep, RepP])
      · exact hp4.elim⟩⟩⟩

/-! ### methods of built-in classes -/
def isTyD (T : String) (h : Hm) : D → Bool
  | .p (.str _) => T == "str"
  | .p (.list _) => T == "list"
  | .cell n => (match h[n]? with
    | some (.lst _) => T == "list"
    | some (.dct _ _) => T == "dict"
    | _ => false)
  | .p (.dict _) => T == "dict"
  | _ => false
def tyOk (T : String) (x : D) : M Unit := fun h => if isTyD T h x = true then .ok () h else .bad
def meth (T : String) (g : D → List D → M D) (fo : Ev → M D) (fa : Ev → M (List D)) : Ev → M D := fun μ => bnd (fo μ) fun x => bnd (tyOk T x) fun _ => bnd (fa μ) fun xs => g x xs
def MetS (X : Cx) (W : XK) (id : String) (g : D → List D → M D) : Prop :=
  MtR X id fun v vs H Q => ∃ m h x xs, Sim X.w X.K X.mg m H h ∧ Rep X.w X.K X.mg m H x v ∧ RepA X.w X.K X.mg m H xs vs ∧ Post (tx X W) m H (Rep X.w X.K X.mg) (g x xs h) Q
/-- a built-in type's things that methods are called of; dicts with keys of any depth too -/
def tyW (X : Cx) (T : String) (v : V) (H : Hp) : Prop := tyV X.K T v H ∨ (T = "dict" ∧ ∃ a xs, v = .ref a ∧ DN X.w H a xs)
theorem tyW_is {pins : List (Addr × Obj)} {σ : L2.St} {H : Hp} {s : Shared} {T : String} {x : V} {v : Value} (I : Inv X pins σ H s) (r : RelV x v) (ty : tyW X T x H) :
    s.TypeIs v T ∧ ∀ a, v = .ref a → ∃ ob, s.heap.get? a = some ob ∧ ob.dict = none := by
  rcases ty with ty | ⟨rfl, a, xs, rfl, dn⟩
  · exact tyV_is I r ty
  · cases r
    obtain ⟨ob, es, ep, ho, hx, hd, he⟩ := dn_raw I dn
    exact ⟨⟨ob, ho, hx.1⟩, fun b e => by cases e; exact ⟨ob, ho, hx.2.1⟩⟩
def tBW (X : Cx) (T : String) (r : V → List V → Hp → VK → Prop) (to : TE) (t : TA) : TE := fun σ H Q => to σ H fun x H1 => tyW X T x H1 ∧ t σ H1 fun xs H2 => r x xs H2 Q
theorem pe_bw {T id : String} {r : V → List V → Hp → VK → Prop} {name : Str} {to : TE} {t : TA} {apos cpos : Pos} (pa : PlainAttrs T) (slot : Slot T name id) (hty : typeOf (.builtin id) = pure (.type "method_descriptor")) (hm : MtR X id r) (ho : PE X o to) (ha : PA X (e :: es) t)
    (hbase : attributeBase o name X.env (eval o X.env) = eval o X.env := by rfl)
    (hfew : ((backTo cpos (starEach (e :: es) X.env)).all (fun x => !x.1) && (backToKw cpos (keywordEach [] X.env)).all (fun x => x.1.isSome)
      && decide ((e :: es).length + ([] : List Keyword).length + (if ([] : List Keyword).isEmpty then 0 else 1) < 30)) = true := by rfl)
    (hline : (apos.endLine == cpos.line) = true := by rfl) (hs : starEach (e :: es) X.env = (false, eval e X.env) :: starEach es X.env := by rfl) (hplain : (backTo cpos (starEach es X.env)).any (·.1) = false := by rfl) :
    PE X (.Call (.Attribute o name apos) (e :: es) [] cpos) (tBW X T r to t) := by
  refine ⟨fun pins s σ H Q I h => ?_⟩
  refine wpAny_Call_method_late hbase hfew hline rfl (thn (ho.run pins s σ H _ I h) fun v s1 ⟨x, H1, I1, r1, ty, q1⟩ => ?_)
  obtain ⟨h1, h2⟩ := tyW_is I1 r1 ty
  refine ⟨T, id, pa, slot, hty, h1, h2, ?_⟩
  have hA := ha.run cpos pins s1 σ H1 _ I1 q1
  rw [hs] at hA ⊢
  refine Calls.callWith_builtin (by show (false || (backTo cpos (starEach es X.env)).any (·.1)) = false; rw [hplain] <;> rfl) (Calls.evalArgs_plain ?_)
  exact thn hA fun us s2 ⟨vs, H2, I2, r2, q2⟩ => hm pins s2 σ H2 x vs v us Q I2 r1 r2 q2
theorem pe_bw0 {T id : String} {r : V → List V → Hp → VK → Prop} {name : Str} {to : TE} {apos cpos : Pos} (pa : PlainAttrs T) (slot : Slot T name id) (hty : typeOf (.builtin id) = pure (.type "method_descriptor")) (hm : MtR X id r) (ho : PE X o to)
    (hbase : attributeBase o name X.env (eval o X.env) = eval o X.env := by rfl) (hline : (apos.endLine == cpos.line) = true := by rfl) :
    PE X (.Call (.Attribute o name apos) [] [] cpos) (fun σ H Q => to σ H fun x H1 => tyW X T x H1 ∧ r x [] H1 Q) := by
  refine ⟨fun pins s σ H Q I h => ?_⟩
  refine wpAny_Call_method_late hbase rfl hline rfl (thn (ho.run pins s σ H _ I h) fun v s1 ⟨x, H1, I1, r1, ty, q1⟩ => ?_)
  obtain ⟨h1, h2⟩ := tyW_is I1 r1 ty
  exact ⟨T, id, pa, slot, hty, h1, h2, Calls.callWith_builtin rfl (PySem.evalArgs_none (hm pins s1 σ H1 x [] v [] Q I1 r1 .nil q1))⟩
theorem tyV_of {m : Mm} {H : Hp} {h : Hm} {x : D} {v : V} {T : String} (S : Sim X.w X.K X.mg m H h) (r : Rep X.w X.K X.mg m H x v) (e : isTyD T h x = true) : tyW X T v H := by
  unfold isTyD at e
  split at e
  · simp only [Rep, RepP] at r; subst r; exact .inl (beq_iff_eq.mp e)
  · simp only [Rep, RepP] at r
    obtain ⟨a, vs, rfl, f, _⟩ := r
    exact .inl (.inl ⟨beq_iff_eq.mp e, vs, f.sq⟩)
  · rename_i n
    simp only [Rep] at r
    obtain ⟨a, rfl, ha⟩ := r
    split at e
    · rename_i xs q
      obtain ⟨vs, hv, _⟩ := S.at_ n a _ ha q
      exact .inl (.inl ⟨beq_iff_eq.mp e, vs, .of hv⟩)
    · rename_i kvs q
      obtain ⟨vs, _, hv⟩ := S.at_ n a _ ha q
      rcases hv with ⟨_, kk, z, _⟩ | ⟨_, xs, dn, _⟩
      · exact .inl (.inr (.inr (.inl ⟨beq_iff_eq.mp e, .inl ⟨kk, z⟩⟩)))
      · exact .inr ⟨beq_iff_eq.mp e, a, xs, rfl, dn⟩
    · cases e
  · rename_i kvs
    simp only [Rep, RepP] at r
    obtain ⟨a, kv, vs, rfl, ⟨_, f⟩, _⟩ := r
    rcases f with ⟨kk, _, z, _⟩ | ⟨xs, dn, _⟩
    · exact .inl (.inr (.inr (.inl ⟨beq_iff_eq.mp e, .inl ⟨kk, z⟩⟩)))
    · exact .inr ⟨beq_iff_eq.mp e, a, xs, rfl, dn⟩
  · cases e
theorem rd_meth {T id : String} {r : V → List V → Hp → VK → Prop} {g : D → List D → M D} {σ : L2.St} {H : Hp} {Q : VK} (hr : ∀ v vs H Q, (∃ m h x xs, Sim X.w X.K X.mg m H h ∧ Rep X.w X.K X.mg m H x v ∧ RepA X.w X.K X.mg m H xs vs ∧ Post (tx X W) m H (Rep X.w X.K X.mg) (g x xs h) Q) → r v vs H Q)
    (h : rdE (tx X W) (meth T g fo f) σ H Q) : tBW X T r (rdE (tx X W) fo) (rdA (tx X W) f) σ H Q := by
  obtain ⟨μ, m, h, S, E, hp⟩ := h
  refine ⟨μ, m, h, S, E, Post.bnd hp fun x h1 m1 H1 v _ S1 X1 r1 hp1 => ?_⟩
  by_cases q : isTyD T h1 x = true
  · have e0 : tyOk T x h1 = .ok () h1 := by unfold tyOk; rw [if_pos q]
    unfold bnd at hp1
    rw [e0] at hp1
    refine ⟨tyV_of S1 r1 q, μ, m1, h1, S1, E.mono X1, Post.bnd (f := f μ) (g := fun xs => g x xs) hp1 fun xs h2 m2 H2 vs _ S2 X2 r2 hp2 => ?_⟩
    exact hr _ _ _ _ ⟨m2, h2, x, xs, S2, r1.mono X2, r2, hp2⟩
  · have e0 : tyOk T x h1 = .bad := by unfold tyOk; rw [if_neg q]
    unfold bnd at hp1
    rw [e0] at hp1
    exact hp1.elim
theorem es_meth {T id : String} {g : D → List D → M D} {name : Str} {apos cpos : Pos} (pa : PlainAttrs T) (slot : Slot T name id) (hty : typeOf (.builtin id) = pure (.type "method_descriptor")) (hm : MetS X W id g) (ho : ES X W o fo) (ha : AS X W (e :: es) f)
    (hbase : attributeBase o name X.env (eval o X.env) = eval o X.env := by rfl)
    (hfew : ((backTo cpos (starEach (e :: es) X.env)).all (fun x => !x.1) && (backToKw cpos (keywordEach [] X.env)).all (fun x => x.1.isSome) && decide ((e :: es).length + ([] : List Keyword).length + (if ([] : List Keyword).isEmpty then 0 else 1) < 30)) = true := by rfl)
    (hline : (apos.endLine == cpos.line) = true := by rfl) (hs : starEach (e :: es) X.env = (false, eval e X.env) :: starEach es X.env := by rfl) (hplain : (backTo cpos (starEach es X.env)).any (·.1) = false := by rfl) :
    ES X W (.Call (.Attribute o name apos) (e :: es) [] cpos) (meth T g fo f) :=
  pe_imp (pe_bw pa slot hty hm ho ha hbase hfew hline hs hplain) fun σ H Q h => rd_meth (id := id) (fun _ _ _ _ q => q) h
theorem es_meth0 {T id : String} {g : D → List D → M D} {name : Str} {apos cpos : Pos} (pa : PlainAttrs T) (slot : Slot T name id) (hty : typeOf (.builtin id) = pure (.type "method_descriptor")) (hm : MetS X W id g) (ho : ES X W o fo)
    (hbase : attributeBase o name X.env (eval o X.env) = eval o X.env := by rfl) (hline : (apos.endLine == cpos.line) = true := by rfl) :
    ES X W (.Call (.Attribute o name apos) [] [] cpos) (meth T g fo aNil) :=
  pe_imp (pe_bw0 pa slot hty hm ho hbase hline) fun σ H Q ⟨μ, m, h, S, E, hp⟩ => by
    refine ⟨μ, m, h, S, E, Post.bnd hp fun x h1 m1 H1 v _ S1 X1 r1 hp1 => ?_⟩
    by_cases q : isTyD T h1 x = true
    · have e0 : tyOk T x h1 = .ok () h1 := by unfold tyOk; rw [if_pos q]
      unfold bnd at hp1
      rw [e0] at hp1
      exact ⟨tyV_of S1 r1 q, m1, h1, x, [], S1, r1, by simp [RepA], hp1⟩
    · have e0 : tyOk T x h1 = .bad := by unfold tyOk; rw [if_neg q]
      unfold bnd at hp1
      rw [e0] at hp1
      exact hp1.elim
theorem mt_imp {id : String} {r r' : V → List V → Hp → VK → Prop} (h : MtR X id r) (w : ∀ x xs H Q, r' x xs H Q → r x xs H Q) : MtR X id r' := fun pins s σ H x xs v us Q I rx rs q => h pins s σ H x xs v us Q I rx rs (w x xs H Q q)
/-- a cell's list is changed -/
def onList (x : D) (k : List D → R (D × List D)) : M D := fun h => match x with
  | .cell n => (match h[n]? with
    | some (.lst xs) => (match k xs with
      | .ok (d, ys) _ => .ok d (h.set n (.lst ys))
      | _ => .bad)
    | _ => .bad)
  | _ => .bad
theorem onList_post {x : D} {k : List D → R (D × List D)} {m : Mm} {H : Hp} {h : Hm} {v : V} {Q : VK} (S : Sim X.w X.K X.mg m H h) (r : Rep X.w X.K X.mg m H x v) (hp : Post (tx X W) m H (Rep X.w X.K X.mg) (onList x k h) Q) :
    ∃ a xs vs d ys h', v = .ref a ∧ H a = some (.lst vs) ∧ RepA X.w X.K X.mg m H xs vs ∧ k xs = .ok (d, ys) h' ∧ ∀ us w, RepA X.w X.K X.mg m H ys us → Rep X.w X.K X.mg m H d w → Q w (upd H a (.lst us)) := by
  unfold onList at hp
  cases x with
  | cell n =>
    simp only [Rep] at r
    obtain ⟨a, rfl, ha⟩ := r
    simp only at hp
    cases q : h[n]? with
    | none => rw [q] at hp; exact hp.elim
    | some c =>
      rw [q] at hp
      cases c with
      | lst xs =>
        simp only at hp
        obtain ⟨vs, hv, rv⟩ := S.at_ n a _ ha q
        cases e : k xs with
        | ok p h' =>
          obtain ⟨d, ys⟩ := p
          rw [e] at hp
          refine ⟨a, xs, vs, d, ys, h', rfl, hv, rv, e, fun us w r1 r2 => ?_⟩
          have X1 : Ext m H m (upd H a (.lst us)) := Ext.write ha
          exact hp m _ _ (S.write ha ⟨us, upd_same, r1.mono X1⟩) X1 (r2.mono X1)
        | exc _ _ => rw [e] at hp; exact hp.elim
        | bad => rw [e] at hp; exact hp.elim
      | _ => exact hp.elim
  | _ => exact hp.elim
theorem RepA.append {w : World} {K : PySem.W.Frag} {mg : Str → Option Value} {m : Mm} {H : Hp} : ∀ {xs ys : List D} {vs us : List V}, RepA w K mg m H xs vs → RepA w K mg m H ys us → RepA w K mg m H (xs ++ ys) (vs ++ us)
  | [], ys, vs, us, h, g => by
    simp only [RepA] at h
    subst h
    exact g
  | x :: xs, ys, vs, us, h, g => by
    simp only [RepA] at h
    obtain ⟨v, r, rfl, h1, h2⟩ := h
    simp only [List.cons_append, RepA]
    exact ⟨v, _, rfl, h1, RepA.append h2 g⟩
def appK (d : D) (xs : List D) : R (D × List D) := if xs.length < sizeLine then .ok (.p .none, xs ++ [d]) [] else .bad
def appendD (x : D) : List D → M D
  | [d] => onList x (appK d)
  | _ => bad
theorem m_append : MetS X W "list.append" appendD := by
  refine mt_imp mt_append fun v vs H Q ⟨m, h, x, xs, S, r1, r2, hp⟩ => ?_
  unfold appendD at hp
  split at hp
  · rename_i d
    simp only [RepA] at r2
    obtain ⟨w, _, rfl, r2, rfl⟩ := r2
    obtain ⟨a, ys, us, d', zs, h', rfl, hv, rv, e, q⟩ := onList_post S r1 hp
    unfold appK at e
    by_cases z : ys.length < sizeLine
    · rw [if_pos z] at e
      cases e
      exact ⟨a, us, w, rfl, rfl, hv, by rw [rv.length]; exact z, q _ _ (rv.append (by simp only [RepA]; exact ⟨w, [], rfl, r2, rfl⟩)) (by simp [Rep, RepP])⟩
    · rw [if_neg z] at e; cases e
  · exact hp.elim
def reverseD (x : D) : List D → M D
  | [] => onList x fun xs => .ok (.p .none, xs.reverse) []
  | _ => bad
theorem RepA.reverse {w : World} {K : PySem.W.Frag} {mg : Str → Option Value} {m : Mm} {H : Hp} : ∀ {xs : List D} {vs : List V}, RepA w K mg m H xs vs → RepA w K mg m H xs.reverse vs.reverse
  | [], vs, h => by simp only [RepA] at h; subst h; simp [RepA]
  | x :: xs, vs, h => by
    simp only [RepA] at h
    obtain ⟨v, r, rfl, h1, h2⟩ := h
    simp only [List.reverse_cons]
    exact (RepA.reverse h2).append (by simp only [RepA]; exact ⟨v, [], rfl, h1, rfl⟩)
theorem m_reverse : MetS X W "list.reverse" reverseD := by
  refine mt_imp mt_reverse fun v vs H Q ⟨m, h, x, xs, S, r1, r2, hp⟩ => ?_
  unfold reverseD at hp
  split at hp
  · simp only [RepA] at r2
    subst r2
    obtain ⟨a, ys, us, d', zs, h', rfl, hv, rv, e, q⟩ := onList_post S r1 hp
    cases e
    exact ⟨a, us, rfl, rfl, hv, q _ _ rv.reverse (by simp [Rep, RepP])⟩
  · exact hp.elim
/-! join -/
def txts : List PyData → Option (List Str)
  | [] => some []
  | .str b :: r => (txts r).map (b :: ·)
  | _ :: _ => none
theorem txts_rep {w : World} {K : PySem.W.Frag} {m : Mm} {H : Hp} : ∀ {xs : List PyData} {bs : List Str} {vs : List V}, txts xs = some bs → RepPs w K m H xs vs → vs = bs.map V.str
  | [], bs, vs, e, r => by
    simp only [txts, Option.some.injEq] at e
    subst e
    simpa only [RepPs, List.map_nil] using r
  | .str b :: xs, bs, vs, e, r => by
    simp only [txts, Option.map_eq_some_iff] at e
    obtain ⟨cs, e, rfl⟩ := e
    simp only [RepPs, RepP] at r
    obtain ⟨v, r', rfl, rfl, h2⟩ := r
    rw [txts_rep e h2]
    rfl
  | .none :: _, _, _, e, _ => by simp [txts] at e
  | .int _ :: _, _, _, e, _ => by simp [txts] at e
  | .bool _ :: _, _, _, e, _ => by simp [txts] at e
  | .list _ :: _, _, _, e, _ => by simp [txts] at e
  | .tuple _ :: _, _, _, e, _ => by simp [txts] at e
  | .dict _ :: _, _, _, e, _ => by simp [txts] at e
def joinP (x : D) : List D → M D
  | [d] => rd2 (fun p q => match p, q with
    | .str a, .list xs => (match txts xs with
      | some ys => chk ((ys.map (·.length)).sum + ys.length * a.length ≤ 16777216) (ret (.p (.str (Txt.join a ys))))
      | none => bad)
    | _, _ => bad) x d
  | _ => bad
theorem m_join : MetS X W "str.join" joinP := by
  refine mt_imp mt_join fun v vs H Q ⟨m, h, x, xs, S, r1, r2, hp⟩ => ?_
  unfold joinP at hp
  split at hp
  · simp only [RepA] at r2
    obtain ⟨w, _, rfl, r2, rfl⟩ := r2
    obtain ⟨p, q, h1, h2, hp⟩ := rd2_post (T := tx X W) S r1 r2 hp
    split at hp
    · rename_i a xs
      simp only [RdP, RepP] at h1
      subst h1
      obtain ⟨l, us, rfl, f, ru⟩ := h2
      cases e : txts xs with
      | none => rw [e] at hp; exact hp.elim
      | some ys =>
        rw [e] at hp
        have := txts_rep e ru
        subst this
        obtain ⟨hz, hp⟩ := chk_post hp
        exact ⟨a, l, ys, rfl, rfl, .inl f, hz, Post.ret hp S (by simp [Rep, RepP])⟩
    · exact hp.elim
  · exact hp.elim

end
/-! ### in -/
section
variable {X : Cx}
def rTupD (K : PySem.W.Frag) (neg : Bool) : R2 := fun x y H Q => ∃ d ds, Dp K H x d ∧ Dp K H y (.tuple ds) ∧ SeqAt.shaped d = true ∧ SeqAt.shaped (.tuple ds) = true ∧ Q (.bl (if neg then !(ds.any fun z => PyData.eqv z d) else ds.any fun z => PyData.eqv z d)) H
theorem room_tup {A : Around} {d : PyData} {ds : List PyData} (sd : SeqAt.shaped d = true) (hu : A.units + 65 < cLine) : A.units + 1 + min (PyData.depthAll ds) d.depth < cLine := by
  have h1 := SeqAt.depth_of_shaped sd
  have h2 : min (PyData.depthAll ds) d.depth ≤ d.depth := Nat.min_le_right _ _
  omega
theorem op_tupIn (hu : X.A.units + 65 < cLine) : OpR X (compareOp .In) (rTupD X.K false) := by
  intro pins s σ H x y v u Q I rx ry ⟨d, ds, hd, he, sd, se, q⟩
  obtain ⟨as, r1⟩ := Dp.reads I d x v hd rx
  obtain ⟨bs, r2⟩ := Dp.reads I _ y u he ry
  exact SeqAt.in_tuple_reads r2 r1 (SeqAt.canLay_of_shaped se) (SeqAt.canLay_of_shaped sd) (room_tup sd hu) ⟨.bl _, H, I, rfl, q⟩
theorem op_tupNotIn (hu : X.A.units + 65 < cLine) : OpR X (compareOp .NotIn) (rTupD X.K true) := by
  intro pins s σ H x y v u Q I rx ry ⟨d, ds, hd, he, sd, se, q⟩
  obtain ⟨as, r1⟩ := Dp.reads I d x v hd rx
  obtain ⟨bs, r2⟩ := Dp.reads I _ y u he ry
  exact SeqAt.notIn_tuple_reads r2 r1 (SeqAt.canLay_of_shaped se) (SeqAt.canLay_of_shaped sd) (room_tup sd hu) ⟨.bl _, H, I, rfl, q⟩
end
section
variable {X : Cx} {W : XK}
def inP (neg : Bool) : PyData → PyData → M D
  | .str x, .str y => ret (.p (.bool (if neg then !inTxt x y else inTxt x y)))
  | x, .list ys => chk (SeqAt.shaped x = true ∧ SeqAt.shaped (.list ys) = true) (ret (.p (.bool (if neg then !(ys.any fun z => PyData.eqv z x) else ys.any fun z => PyData.eqv z x))))
  | x, .tuple ys => chk (SeqAt.shaped x = true ∧ SeqAt.shaped (.tuple ys) = true) (ret (.p (.bool (if neg then !(ys.any fun z => PyData.eqv z x) else ys.any fun z => PyData.eqv z x))))
  | _, _ => bad
theorem o_in {k : Nat} (hr : Room k X.A) : Op2 X W (compareOp .In) (rd2 (inP false)) := by
  refine op2_of ((op_in_str.or (op_inD (by have := hr.un; omega))).or (op_tupIn (by have := hr.un; omega))) fun m H h p q v u Q S r1 r2 hp => ?_
  unfold inP at hp
  split at hp
  · simp only [RdP, RepP] at r1 r2
    exact .inl (.inl ⟨_, _, r1, r2, Post.ret hp S (by simp [Rep, RepP, inTxt])⟩)
  · obtain ⟨⟨h1, h2⟩, hp⟩ := chk_post hp
    exact .inl (.inr ⟨_, _, r1.dp (shaped_noDict h1), r2.dp (shaped_noDict h2), h1, h2, Post.ret hp S (by simp [Rep, RepP])⟩)
  · obtain ⟨⟨h1, h2⟩, hp⟩ := chk_post hp
    exact .inr ⟨_, _, r1.dp (shaped_noDict h1), r2.dp (shaped_noDict h2), h1, h2, Post.ret hp S (by simp [Rep, RepP])⟩
  · exact hp.elim
theorem o_notIn {k : Nat} (hr : Room k X.A) : Op2 X W (compareOp .NotIn) (rd2 (inP true)) := by
  refine op2_of ((op_notin_str.or (op_notInD (by have := hr.un; omega))).or (op_tupNotIn (by have := hr.un; omega))) fun m H h p q v u Q S r1 r2 hp => ?_
  unfold inP at hp
  split at hp
  · simp only [RdP, RepP] at r1 r2
    exact .inl (.inl ⟨_, _, r1, r2, Post.ret hp S (by simp [Rep, RepP, inTxt])⟩)
  · obtain ⟨⟨h1, h2⟩, hp⟩ := chk_post hp
    exact .inl (.inr ⟨_, _, r1.dp (shaped_noDict h1), r2.dp (shaped_noDict h2), h1, h2, Post.ret hp S (by simp [Rep, RepP])⟩)
  · obtain ⟨⟨h1, h2⟩, hp⟩ := chk_post hp
    exact .inr ⟨_, _, r1.dp (shaped_noDict h1), r2.dp (shaped_noDict h2), h1, h2, Post.ret hp S (by simp [Rep, RepP])⟩
  · exact hp.elim
end
end MP
/-! MP5: targets, statements, loops, comprehensions. -/
namespace MP
open PySem PySem.Spec PyProof.Rows L2

/-! ### statements -/
inductive Fl where
  | nx (μ : Ev)
  | rt (d : D)
  | bk (μ : Ev)
  | ct (μ : Ev)
def PostS (T : Tx) (m : Mm) (H : Hp) (r : R Fl) (E : Ends) : Prop :=
  match r with
  | .ok (.nx μ) h' => ∀ m' H' σ', Sim T.w T.K T.mg m' H' h' → Ext m H m' H' → EnvR T.w T.K T.mg m' H' μ σ' → E.nx σ' H'
  | .ok (.rt d) h' => ∀ m' H' v, Sim T.w T.K T.mg m' H' h' → Ext m H m' H' → Rep T.w T.K T.mg m' H' d v → E.rt v H'
  | .ok (.bk μ) h' => ∀ m' H' σ', Sim T.w T.K T.mg m' H' h' → Ext m H m' H' → EnvR T.w T.K T.mg m' H' μ σ' → E.bk σ' H'
  | .ok (.ct μ) h' => ∀ m' H' σ', Sim T.w T.K T.mg m' H' h' → Ext m H m' H' → EnvR T.w T.K T.mg m' H' μ σ' → E.ct σ' H'
  | .exc e h' => ∀ m' H' cv dx, Sim T.w T.K T.mg m' H' h' → Ext m H m' H' → ExR T.w T.K T.mg m' H' e cv dx → T.W cv dx H'
  | .bad => False
theorem PostS.up {T : Tx} {m m' : Mm} {H H' : Hp} {h' : Hm} {r : R Fl} {E : Ends} (S : Sim T.w T.K T.mg m' H' h') (X : Ext m H m' H') (hp : PostS T m H r E) : PostS T m' H' r E := by
  cases r with
  | ok f h2 =>
    cases f with
    | nx μ => exact fun m2 H2 σ2 S2 X2 e => hp m2 H2 σ2 S2 (X.then S X2) e
    | rt d => exact fun m2 H2 v S2 X2 e => hp m2 H2 v S2 (X.then S X2) e
    | bk μ => exact fun m2 H2 σ2 S2 X2 e => hp m2 H2 σ2 S2 (X.then S X2) e
    | ct μ => exact fun m2 H2 σ2 S2 X2 e => hp m2 H2 σ2 S2 (X.then S X2) e
  | exc x h2 => exact fun m2 H2 cv dx S2 X2 e => hp m2 H2 cv dx S2 (X.then S X2) e
  | bad => exact hp
theorem PostS.bnd {α β : Type} {T : Tx} {m : Mm} {H : Hp} {rel : Mm → Hp → α → β → Prop} {f : M α} {g : α → M Fl} {h : Hm} {E : Ends} {Q' : β → Hp → Prop}
    (hp : PostS T m H (bnd f g h) E) (hQ : ∀ a h' m' H' b, f h = .ok a h' → Sim T.w T.K T.mg m' H' h' → Ext m H m' H' → rel m' H' a b → PostS T m' H' (g a h') E → Q' b H') : Post T m H rel (f h) Q' := by
  unfold MP.bnd at hp
  cases e : f h with
  | ok a h' =>
    rw [e] at hp
    exact fun m' H' b S X r => hQ a h' m' H' b e S X r (PostS.up S X hp)
  | exc x h' => rw [e] at hp; exact hp
  | bad => rw [e] at hp; exact hp
/-- another reading behind each end -/
theorem PostS.imp {T : Tx} {m : Mm} {H : Hp} {r : R Fl} {E E' : Ends} (hp : PostS T m H r E)
    (h1 : ∀ μ h' m' H' σ', r = .ok (.nx μ) h' → Sim T.w T.K T.mg m' H' h' → Ext m H m' H' → EnvR T.w T.K T.mg m' H' μ σ' → E.nx σ' H' → E'.nx σ' H')
    (h2 : ∀ v H', E.rt v H' → E'.rt v H')
    (h3 : ∀ μ h' m' H' σ', r = .ok (.bk μ) h' → Sim T.w T.K T.mg m' H' h' → Ext m H m' H' → EnvR T.w T.K T.mg m' H' μ σ' → E.bk σ' H' → E'.bk σ' H')
    (h4 : ∀ μ h' m' H' σ', r = .ok (.ct μ) h' → Sim T.w T.K T.mg m' H' h' → Ext m H m' H' → EnvR T.w T.K T.mg m' H' μ σ' → E.ct σ' H' → E'.ct σ' H') : PostS T m H r E' := by
  cases r with
  | ok f h' =>
    cases f with
    | nx μ => exact fun m2 H2 σ2 S2 X2 e => h1 μ h' m2 H2 σ2 rfl S2 X2 e (hp m2 H2 σ2 S2 X2 e)
    | rt d => exact fun m2 H2 v S2 X2 e => h2 _ _ (hp m2 H2 v S2 X2 e)
    | bk μ => exact fun m2 H2 σ2 S2 X2 e => h3 μ h' m2 H2 σ2 rfl S2 X2 e (hp m2 H2 σ2 S2 X2 e)
    | ct μ => exact fun m2 H2 σ2 S2 X2 e => h4 μ h' m2 H2 σ2 rfl S2 X2 e (hp m2 H2 σ2 S2 X2 e)
  | exc x h2 => exact hp
  | bad => exact hp
def rdS (T : Tx) (f : Ev → M Fl) : TS := fun E σ H => ∃ μ m h, Sim T.w T.K T.mg m H h ∧ EnvR T.w T.K T.mg m H μ σ ∧ PostS T m H (f μ h) E
abbrev SS (X : Cx) (W : XK) (st : Stmt) (f : Ev → M Fl) : Prop := PS X st (rdS (tx X W) f)
abbrev BS (X : Cx) (W : XK) (st : List Stmt) (f : Ev → M Fl) : Prop := PSs X st (rdS (tx X W) f)

def sNil : Ev → M Fl := fun μ => ret (.nx μ)
def sSeq (f g : Ev → M Fl) : Ev → M Fl := fun μ => bnd (f μ) fun o => match o with
  | .nx μ' => g μ'
  | o => ret o
def sRet (f : Ev → M D) : Ev → M Fl := fun μ => bnd (f μ) fun d => ret (.rt d)
def sRetN : Ev → M Fl := fun _ => ret (.rt (.p .none))
def sDrop (f : Ev → M D) : Ev → M Fl := fun μ => bnd (f μ) fun _ => ret (.nx μ)
def sIf (c : Ev → M Bool) (f g : Ev → M Fl) : Ev → M Fl := fun μ => bnd (c μ) fun b => if b = true then f μ else g μ
def sBreak : Ev → M Fl := fun μ => ret (.bk μ)
def sCont : Ev → M Fl := fun μ => ret (.ct μ)
section
variable {X : Cx} {W : XK} {e : Expr} {st : Stmt} {rest : List Stmt} {fe : Ev → M D} {f g : Ev → M Fl} {pos : Pos}
theorem bs_nil : BS X W [] sNil := pss_imp pss_nil fun E σ H ⟨μ, m, h, S, V, hp⟩ => hp m H σ S Ext.refl V
theorem bs_cons (h1 : SS X W st f) (h2 : BS X W rest g) : BS X W (st :: rest) (sSeq f g) := pss_imp (pss_cons h1 h2) fun E σ H ⟨μ, m, h, S, V, hp⟩ => by
  refine ⟨μ, m, h, S, V, ?_⟩
  unfold sSeq bnd at hp
  cases q : f μ h with
  | ok o h' =>
    rw [q] at hp
    cases o with
    | nx μ' => exact fun m' H' σ' S' X' V' => ⟨μ', m', h', S', V', hp.up S' X'⟩
    | rt d => exact hp
    | bk μ' => exact hp
    | ct μ' => exact hp
  | exc x h' => rw [q] at hp; exact hp
  | bad => rw [q] at hp; exact hp
theorem bs_one (h1 : SS X W st f) : BS X W [st] f := pss_imp (pss_one h1) fun E σ H h => h
theorem ss_ret (he : ES X W e fe) : SS X W (.Return (some e) pos) (sRet fe) := ps_imp (ps_ret he) fun E σ H ⟨μ, m, h, S, V, hp⟩ => ⟨μ, m, h, S, V, PostS.bnd hp fun d h' m' H' v _ S' X' r hp' => hp' m' H' v S' Ext.refl r⟩
theorem ss_retN : SS X W (.Return none pos) sRetN := ps_imp ps_retN fun E σ H ⟨μ, m, h, S, V, hp⟩ => hp m H .non S Ext.refl (by simp [Rep, RepP])
theorem ss_drop (he : ES X W e fe) (hs : swapsWith e none pos.line X.env = pure false := by rfl) : SS X W (.Expr e pos) (sDrop fe) := ps_imp (ps_expr he hs) fun E σ H ⟨μ, m, h, S, V, hp⟩ => ⟨μ, m, h, S, V, PostS.bnd hp fun d h' m' H' v _ S' X' r hp' => hp' m' H' σ S' Ext.refl (V.mono X')⟩
theorem ss_doc {x : Str} {j : Nat} {pos' : Pos} : SS X W (.Expr (.Constant (.str x) j pos) pos') sNil := ps_imp ps_doc fun E σ H ⟨μ, m, h, S, V, hp⟩ => hp m H σ S Ext.refl V
theorem ss_pass : SS X W (.Pass pos) sNil := ps_imp ps_pass fun E σ H ⟨μ, m, h, S, V, hp⟩ => hp m H σ S Ext.refl V
theorem ss_break : SS X W (.Break pos) sBreak := ps_imp ps_break fun E σ H ⟨μ, m, h, S, V, hp⟩ => hp m H σ S Ext.refl V
theorem ss_cont : SS X W (.Continue pos) sCont := ps_imp ps_continue fun E σ H ⟨μ, m, h, S, V, hp⟩ => hp m H σ S Ext.refl V
theorem ss_if {c : Expr} {fc : Ev → M Bool} {a b : List Stmt} (hc : TsS X W c fc) (ha : BS X W a f) (hb : BS X W b g) : SS X W (.If c a b pos) (sIf fc f g) := ps_imp (ps_if hc ha hb) fun E σ H ⟨μ, m, h, S, V, hp⟩ => ⟨μ, m, h, S, V, PostS.bnd hp fun d h' m' H' v _ S' X' r hp' => by
  subst r
  cases v with
  | true => exact ⟨μ, m', h', S', V.mono X', hp'⟩
  | false => exact ⟨μ, m', h', S', V.mono X', hp'⟩⟩
end

/-! ### targets -/
structure Agr (S : List Nat) (σ σ' : L2.St) : Prop where
  len : σ'.length = σ.length
  at_ : ∀ i, i ∉ S → σ'[i]? = σ[i]?
def rdG (T : Tx) (S : List Nat) (g : D → Ev → Hm → Option Ev) : TG := fun v σ H Q => ∃ μ m h d μ', Sim T.w T.K T.mg m H h ∧ EnvR T.w T.K T.mg m H μ σ ∧ Rep T.w T.K T.mg m H d v ∧ g d μ h = some μ' ∧ ∀ σ', EnvR T.w T.K T.mg m H μ' σ' → Agr S σ σ' → Q σ' H
def rdGs (T : Tx) (S : List Nat) (g : List D → Ev → Hm → Option Ev) : TGs := fun vs σ H Q => ∃ μ m h ds μ', Sim T.w T.K T.mg m H h ∧ EnvR T.w T.K T.mg m H μ σ ∧ RepA T.w T.K T.mg m H ds vs ∧ g ds μ h = some μ' ∧ ∀ σ', EnvR T.w T.K T.mg m H μ' σ' → Agr S σ σ' → Q σ' H
abbrev GS (X : Cx) (T : Tx) (e : Expr) (S : List Nat) (g : D → Ev → Hm → Option Ev) : Prop := PG X e (rdG T S g)
abbrev GsS (X : Cx) (T : Tx) (e : List Expr) (S : List Nat) (g : List D → Ev → Hm → Option Ev) : Prop := PGs X e (rdGs T S g)
theorem pg_imp {X : Cx} {e : Expr} {t t' : TG} (h : PG X e t) (w : ∀ v σ H Q, t' v σ H Q → t v σ H Q) : PG X e t' := ⟨fun pins s σ H v u Q I r q => h.run pins s σ H v u Q I r (w v σ H Q q)⟩
theorem pgs_imp {X : Cx} {e : List Expr} {t t' : TGs} (h : PGs X e t) (w : ∀ v σ H Q, t' v σ H Q → t v σ H Q) : PGs X e t' := ⟨fun pins s σ H v u Q I r q => h.run pins s σ H v u Q I r (w v σ H Q q)⟩
def gNm (i : Nat) : D → Ev → Hm → Option Ev := fun d μ _ => some (μ.set i (some d))
def gNl : List D → Ev → Hm → Option Ev := fun ds μ _ => match ds with
  | [] => some μ
  | _ => none
def gCn (g : D → Ev → Hm → Option Ev) (k : List D → Ev → Hm → Option Ev) : List D → Ev → Hm → Option Ev := fun ds μ h => match ds with
  | d :: r => (g d μ h).bind fun μ' => k r μ' h
  | [] => none
def itemsT : D → Option (List D)
  | .p (.tuple xs) => some (xs.map .p)
  | .mix xs => some xs
  | _ => none
def gTp (n : Nat) (k : List D → Ev → Hm → Option Ev) : D → Ev → Hm → Option Ev := fun d μ h => match itemsT d with
  | some xs => if xs.length = n then k xs μ h else none
  | none => none
theorem itemsT_rep {w : World} {K : PySem.W.Frag} {mg : Str → Option Value} {m : Mm} {H : Hp} {d : D} {v : V} {xs : List D} (r : Rep w K mg m H d v) (e : itemsT d = some xs) : ∃ a vs, v = .ref a ∧ FzT K m H a vs ∧ RepA w K mg m H xs vs := by
  cases d with
  | p x =>
    cases x with
    | tuple ys =>
      simp only [itemsT, Option.some.injEq] at e
      subst e
      simp only [Rep, RepP] at r
      obtain ⟨a, vs, e, f, r⟩ := r
      exact ⟨a, vs, e, f, repA_map r⟩
    | _ => cases e
  | mix ys =>
    simp only [itemsT, Option.some.injEq] at e
    subst e
    simp only [Rep] at r
    exact r
  | _ => cases e
section
variable {X : Cx} {T : Tx} {pos : Pos}
theorem gs_name {i : Nat} {x : Str} (hN : X.N.Nodup) (hi : X.N[i]? = some x := by rfl) (hx : Loc X.env.scope x := by first | exact .inl rfl | exact .inr rfl) (hf : X.fn x = true ∨ X.env.scope.names.lookup x = some .local := by first | exact .inl rfl | exact .inr rfl) : GS X T (.Name x pos) [i] (gNm i) :=
  pg_imp (pg_name hN hi hx hf) fun v σ H Q ⟨μ, m, h, d, μ', S, E, r, e, q⟩ => by
    simp only [gNm, Option.some.injEq] at e
    subst e
    refine q _ (E.set r i) ⟨by simp, fun j hj => ?_⟩
    rw [List.getElem?_set_ne]
    intro z
    exact hj (by simp [z])
theorem gss_nil : GsS X T [] [] gNl := pgs_imp pgs_nil fun vs σ H Q ⟨μ, m, h, ds, μ', S, E, r, e, q⟩ => by
  cases ds with
  | nil =>
    simp only [RepA] at r
    simp only [gNl, Option.some.injEq] at e
    subst e
    exact ⟨r, q σ E ⟨rfl, fun _ _ => rfl⟩⟩
  | cons _ _ => cases e
theorem gss_cons {e : Expr} {es : List Expr} {S1 S2 : List Nat} {g : D → Ev → Hm → Option Ev} {k : List D → Ev → Hm → Option Ev} (h1 : GS X T e S1 g) (h2 : GsS X T es S2 k) (hs : (assignEach (e :: es) X.env).map (·.2) = assign e X.env :: (assignEach es X.env).map (·.2) := by rfl) : GsS X T (e :: es) (S1 ++ S2) (gCn g k) :=
  pgs_imp (pgs_cons h1 h2 hs) fun vs σ H Q ⟨μ, m, h, ds, μ', S, E, r, e, q⟩ => by
    cases ds with
    | nil => cases e
    | cons d ds =>
      simp only [RepA] at r
      obtain ⟨v, r', rfl, ra, rb⟩ := r
      simp only [gCn, Option.bind_eq_some_iff] at e
      obtain ⟨μ1, e1, e2⟩ := e
      refine ⟨v, r', rfl, μ, m, h, d, μ1, S, E, ra, e1, fun σ1 E1 A1 => ⟨μ1, m, h, ds, μ', S, E1, rb, e2, fun σ2 E2 A2 => q σ2 E2 ⟨A2.len.trans A1.len, fun j hj => ?_⟩⟩⟩
      rw [A2.at_ j fun z => hj (List.mem_append_right _ z), A1.at_ j fun z => hj (List.mem_append_left _ z)]
theorem gs_tup {es : List Expr} {kk : Nat} {S : List Nat} {k : List D → Ev → Hm → Option Ev} {n : Nat} (hc : X.calm = true) (h : GsS X T es S k) (hK : T.K = X.K := by rfl) (hn : (assignEach es X.env).length = n := by rfl) (hst : (assignEach es X.env).findIdx? (·.1) = none := by rfl) : GS X T (.Tuple es kk pos) S (gTp n k) :=
  pg_imp (pg_tup hc h hn hst) fun v σ H Q ⟨μ, m, h, d, μ', S, E, r, e, q⟩ => by
    unfold gTp at e
    cases q1 : itemsT d with
    | none => rw [q1] at e; cases e
    | some xs =>
      rw [q1] at e
      simp only at e
      by_cases hl : xs.length = n
      · rw [if_pos hl] at e
        obtain ⟨a, vs, rfl, f, rv⟩ := itemsT_rep r q1
        exact ⟨a, vs, rfl, by rw [← hK]; exact f.sq, by rw [rv.length]; exact hl, μ, m, h, xs, μ', S, E, rv, e, q⟩
      · rw [if_neg hl] at e; cases e
end
/-- target = value -/
def sAsg (g : D → Ev → Hm → Option Ev) (f : Ev → M D) : Ev → M Fl := fun μ => bnd (f μ) fun d h => match g d μ h with
  | some μ' => .ok (.nx μ') h
  | none => .bad
def sSet (i : Nat) (f : Ev → M D) : Ev → M Fl := fun μ => bnd (f μ) fun d => ret (.nx (μ.set i (some d)))
section
variable {X : Cx} {W : XK} {e : Expr} {fe : Ev → M D} {pos : Pos}
theorem rd_asg {S : List Nat} {g : D → Ev → Hm → Option Ev} {E : Ends} {σ : L2.St} {H : Hp} (h : rdS (tx X W) (sAsg g fe) E σ H) : tAsg (rdE (tx X W) fe) (rdG (tx X W) S g) E σ H := by
  obtain ⟨μ, m, h, Sm, V, hp⟩ := h
  refine ⟨μ, m, h, Sm, V, PostS.bnd hp fun d h' m' H' v _ S' X' r hp' => ?_⟩
  cases q : g d μ h' with
  | none => rw [q] at hp'; exact hp'.elim
  | some μ' =>
    rw [q] at hp'
    exact ⟨μ, m', h', d, μ', S', V.mono X', r, q, fun σ' V' _ => hp' m' H' σ' S' Ext.refl V'⟩
theorem ss_asg {tg : Expr} {S : List Nat} {g : D → Ev → Hm → Option Ev} (he : ES X W e fe) (hg : GS X (tx X W) tg S g) (hs : swapsWithSole [tg] e pos.line X.env = pure false := by rfl) (hw : swappedStores [tg] e X.env = pure none := by rfl)
    (h1 : (assignEach [tg] X.env).map (·.2) = [assign tg X.env] := by rfl) : SS X W (.Assign [tg] e pos) (sAsg g fe) := ps_imp (ps_asg he hg hs hw h1) fun E σ H h => rd_asg h
theorem ss_set {i : Nat} {x : Str} {pos' : Pos} (hN : X.N.Nodup) (he : ES X W e fe) (hi : X.N[i]? = some x := by rfl) (hx : Loc X.env.scope x := by first | exact .inl rfl | exact .inr rfl) (hs : swapsWith e (some (.Name x pos')) pos.line X.env = pure false := by rfl) (hf : X.fn x = true ∨ X.env.scope.names.lookup x = some .local := by first | exact .inl rfl | exact .inr rfl) :
    SS X W (.Assign [.Name x pos'] e pos) (sSet i fe) := ps_imp (ps_set hN hi hx he hs hf) fun E σ H ⟨μ, m, h, S, V, hp⟩ => ⟨μ, m, h, S, V, PostS.bnd hp fun d h' m' H' v _ S' X' r hp' => hp' m' H' _ S' Ext.refl ((V.mono X').set r i)⟩
/-- o[i] = v of a cell's list -/
def setK (d : D) (j : Int) (xs : List D) : R (D × List D) := match ixN xs.length j with
  | some k => .ok (.p .none, xs.set k d) []
  | none => .bad
def setD (x i d : D) : M D := match i with
  | .p (.int j) => onList x (setK d j)
  | _ => bad
def sSub (fe fo fi : Ev → M D) : Ev → M Fl := fun μ => bnd (fe μ) fun d => bnd (fo μ) fun x => bnd (fi μ) fun i => bnd (setD x i d) fun _ => ret (.nx μ)
theorem RepA.set {w : World} {K : PySem.W.Frag} {mg : Str → Option Value} {m : Mm} {H : Hp} {d : D} {v : V} (rd : Rep w K mg m H d v) : ∀ {xs : List D} {vs : List V} (j : Nat), RepA w K mg m H xs vs → RepA w K mg m H (xs.set j d) (vs.set j v)
  | [], vs, j, r => by simp only [RepA] at r; subst r; simp [RepA]
  | x :: xs, vs, 0, r => by
    simp only [RepA] at r
    obtain ⟨w, r', rfl, h1, h2⟩ := r
    simp only [List.set_cons_zero, RepA]
    exact ⟨v, r', rfl, rd, h2⟩
  | x :: xs, vs, j + 1, r => by
    simp only [RepA] at r
    obtain ⟨w, r', rfl, h1, h2⟩ := r
    simp only [List.set_cons_succ, RepA]
    exact ⟨w, _, rfl, h1, RepA.set rd j h2⟩
theorem ss_sub {o i : Expr} {fo fi : Ev → M D} {p1 : Pos} (he : ES X W e fe) (ho : ES X W o fo) (hi : ES X W i fi) (hs : swapsWithSole [.Subscript o i p1] e pos.line X.env = pure false := by rfl) (hw : swappedStores [.Subscript o i p1] e X.env = pure none := by rfl)
    (h1 : (assignEach [.Subscript o i p1] X.env).map (·.2) = [assign (.Subscript o i p1) X.env] := by rfl)
    (ha : ∀ v, assign (.Subscript o i p1) X.env v = (do
      let ov ← holding [v] (eval o X.env)
      let iv ← holding [v, ov] (eval i X.env)
      standAt p1
      holding [v, ov, iv] (setItem ov iv v)
      release [v, ov, iv] []) := by intro _; rfl) : SS X W (.Assign [.Subscript o i p1] e pos) (sSub fe fo fi) :=
  ps_imp (ps_asg he (pg_sub ho hi set_list ha) hs hw h1) fun E σ H ⟨μ, m, h, S, V, hp⟩ => by
    refine ⟨μ, m, h, S, V, PostS.bnd hp fun d h1 m1 H1 v _ S1 X1 r1 hp1 => ?_⟩
    refine ⟨μ, m1, h1, S1, V.mono X1, PostS.bnd hp1 fun x h2 m2 H2 ov _ S2 X2 r2 hp2 => ?_⟩
    refine ⟨μ, m2, h2, S2, (V.mono X1).mono X2, PostS.bnd hp2 fun y h3 m3 H3 iv _ S3 X3 r3 hp3 => ?_⟩
    unfold setD at hp3
    split at hp3
    · rename_i j _
      simp only [Rep, RepP] at r3
      have hp4 : Post (tx X W) m3 H3 (Rep X.w X.K X.mg) (onList x (setK d j) h3) fun _ H' => E.nx σ H' := PostS.bnd hp3 fun _ h4 m4 H4 _ _ S4 X4 _ hp4 => (show ∀ m' H' σ', Sim X.w X.K X.mg m' H' h4 → Ext m4 H4 m' H' → EnvR X.w X.K X.mg m' H' μ σ' → E.nx σ' H' from hp4) m4 H4 σ S4 Ext.refl (((V.mono X1).mono X2).mono X3 |>.mono X4)
      obtain ⟨a, xs, vs, d', ys, h', rfl, hv, rv, ek, q⟩ := onList_post S3 (r2.mono X3) hp4
      unfold setK at ek
      cases ej : ixN xs.length j with
      | none => rw [ej] at ek; cases ek
      | some k =>
        rw [ej] at ek
        cases ek
        exact ⟨a, vs, j, k, rfl, r3, hv, by rw [rv.length]; exact ej, q _ (.non) (rv.set ((r1.mono X2).mono X3) k) (by simp [Rep, RepP])⟩
    · exact hp3.elim
end

/-! ### what is walked -/
structure WalksD (T : Tx) (m : Mm) (H : Hp) (J : It) (ds : List D) : Prop where
  go : ∀ m' H' h', Mov m H m' H' → Sim T.w T.K T.mg m' H' h' → ∀ (i : Nat) d, ds[i]? = some d → J.go i H' ∧ ∀ x H2, J.yld i H' x H2 → Sim T.w T.K T.mg m' H2 h' ∧ Ext m' H' m' H2 ∧ Rep T.w T.K T.mg m' H2 d x
  stop : ∀ m' H' h', Mov m H m' H' → Sim T.w T.K T.mg m' H' h' → J.stop ds.length H'
def rdI (T : Tx) (f : Ev → M (List D)) : TI := fun σ H Rr => ∃ μ m h, Sim T.w T.K T.mg m H h ∧ EnvR T.w T.K T.mg m H μ σ ∧ Post T m H (fun m' H' ds J => WalksD T m' H' J ds) (f μ h) Rr
abbrev IS (X : Cx) (W : XK) (tg e : Expr) (f : Ev → M (List D)) : Prop := PI X tg e (rdI (tx X W) f)
theorem pi_imp {X : Cx} {tg e : Expr} {t t' : TI} (h : PI X tg e t) (w : ∀ σ H Q, t' σ H Q → t σ H Q) : PI X tg e t' := ⟨fun pins s σ H Q I q => h.run pins s σ H Q I (w σ H Q q)⟩
section
variable {X : Cx} {W : XK} {tg e : Expr} {fe : Ev → M D}
def itL (f : Ev → M D) : Ev → M (List D) := fun μ => bnd (f μ) fun d => match d with
  | .p (.list xs) => ret (xs.map .p)
  | _ => bad
theorem walks_list {T : Tx} {m : Mm} {H : Hp} {a : Addr} {vs : List V} {ds : List D} (f : FzL T.K m H a vs) (r : RepA T.w T.K T.mg m H ds vs) : WalksD T m H (Itl T.K a) ds := by
  refine ⟨fun m' H' h' X S i d e => ?_, fun m' H' h' X S => ⟨vs, (f.mov X).sq, Nat.le_of_eq r.length⟩⟩
  obtain ⟨v, hv, rv⟩ := repA_at r e
  have f' := (f.mov X).sq
  refine ⟨⟨vs, v, f', hv⟩, fun x H2 hy => ?_⟩
  obtain ⟨rfl, hx⟩ := hy
  have := hx vs f'
  rw [hv] at this
  cases this
  exact ⟨S, Ext.refl, Rep.mov X _ _ rv⟩
theorem is_list (he : ES X W e fe) : IS X W tg e (itL fe) := pi_imp (pi_list he) fun σ H Q ⟨μ, m, h, S, V, hp⟩ => ⟨μ, m, h, S, V, Post.bnd hp fun d h1 m1 H1 v _ S1 X1 r1 hp1 => by
  split at hp1
  · simp only [Rep, RepP] at r1
    obtain ⟨a, vs, rfl, f, r⟩ := r1
    exact ⟨a, rfl, ⟨vs, f.sq⟩, Post.ret hp1 S1 (walks_list f (repA_map r))⟩
  · exact hp1.elim⟩
def itT (f : Ev → M D) : Ev → M (List D) := fun μ => bnd (f μ) fun d => match itemsT d with
  | some xs => ret xs
  | none => bad
theorem walks_tup {T : Tx} {m : Mm} {H : Hp} {a : Addr} {vs : List V} {ds : List D} (f : FzT T.K m H a vs) (r : RepA T.w T.K T.mg m H ds vs) : WalksD T m H (Itt T.K a) ds := by
  refine ⟨fun m' H' h' X S i d e => ?_, fun m' H' h' X S => ⟨vs, (f.mov X).sq, Nat.le_of_eq r.length⟩⟩
  obtain ⟨v, hv, rv⟩ := repA_at r e
  have f' := (f.mov X).sq
  refine ⟨⟨vs, v, f', hv⟩, fun x H2 hy => ?_⟩
  obtain ⟨rfl, hx⟩ := hy
  have := hx vs f'
  rw [hv] at this
  cases this
  exact ⟨S, Ext.refl, Rep.mov X _ _ rv⟩
theorem is_tup (he : ES X W e fe) : IS X W tg e (itT fe) := pi_imp (pi_tup he) fun σ H Q ⟨μ, m, h, S, V, hp⟩ => ⟨μ, m, h, S, V, Post.bnd hp fun d h1 m1 H1 v _ S1 X1 r1 hp1 => by
  cases q : itemsT d with
  | none => rw [q] at hp1; exact hp1.elim
  | some xs =>
    rw [q] at hp1
    obtain ⟨a, vs, rfl, f, r⟩ := itemsT_rep r1 q
    exact ⟨a, rfl, ⟨vs, f.sq⟩, Post.ret hp1 S1 (walks_tup f r)⟩⟩
def rngL (lo : Int) (n : Nat) : List D := (List.range n).map fun i => .p (.int (lo + (i : Nat)))
theorem walks_rng {T : Tx} {m : Mm} {H : Hp} (lo : Int) (n : Nat) : WalksD T m H (Itr lo n) (rngL lo n) := by
  refine ⟨fun m' H' h' X S i d e => ?_, fun m' H' h' X S => by simp [rngL, Itr]⟩
  simp only [rngL, List.getElem?_map, Option.map_eq_some_iff] at e
  obtain ⟨j, e, rfl⟩ := e
  have hl : i < n := by
    rcases Nat.lt_or_ge i n with q | q
    · exact q
    · rw [List.getElem?_eq_none (by simpa using q)] at e; cases e
  have hj : j = i := by
    rw [List.getElem?_eq_getElem (by simpa using hl)] at e
    simpa using (Option.some.inj e).symm
  subst hj
  refine ⟨hl, fun x H2 hy => ?_⟩
  obtain ⟨rfl, rfl⟩ := hy
  exact ⟨S, Ext.refl, by simp [Rep, RepP]⟩
def itR1 (f : Ev → M (List D)) : Ev → M (List D) := fun μ => bnd (f μ) fun ds => match ds with
  | [.p (.int j)] => chk (-(2 ^ 62) ≤ j ∧ j < 2 ^ 62) (ret (rngL 0 j.toNat))
  | _ => bad
theorem is_rng1 {a : Expr} {fa : Ev → M (List D)} {p pos : Pos} (hg : Gl X "range") (hm : X.mg "range" = none) (ha : AS X W [a] fa) (hs : starEach [a] X.env = [(false, eval a X.env)] := by rfl) : IS X W tg (.Call (.Name "range" p) [a] [] pos) (itR1 fa) :=
  pi_imp (pi_range1 hg hm ha hs) fun σ H Q ⟨μ, m, h, S, V, hp⟩ => ⟨μ, m, h, S, V, Post.bnd hp fun ds h1 m1 H1 vs _ S1 X1 r1 hp1 => by
    split at hp1
    · rename_i j _
      simp only [RepA, Rep, RepP] at r1
      obtain ⟨v, _, rfl, rfl, rfl⟩ := r1
      obtain ⟨⟨z1, z2⟩, hp1⟩ := chk_post hp1
      exact ⟨j, rfl, z1, z2, Post.ret hp1 S1 (walks_rng 0 j.toNat)⟩
    · exact hp1.elim⟩
def itR2 (f : Ev → M (List D)) : Ev → M (List D) := fun μ => bnd (f μ) fun ds => match ds with
  | [.p (.int i), .p (.int j)] => chk (-(2 ^ 62) ≤ i ∧ i < 2 ^ 62 ∧ -(2 ^ 62) ≤ j ∧ j < 2 ^ 62) (ret (rngL i (j - i).toNat))
  | _ => bad
theorem is_rng2 {a b : Expr} {fa : Ev → M (List D)} {p pos : Pos} (hg : Gl X "range") (hm : X.mg "range" = none) (ha : AS X W [a, b] fa) (hs : starEach [a, b] X.env = [(false, eval a X.env), (false, eval b X.env)] := by rfl) (hs2 : starEach [b] X.env = [(false, eval b X.env)] := by rfl) : IS X W tg (.Call (.Name "range" p) [a, b] [] pos) (itR2 fa) :=
  pi_imp (pi_range2 hg hm ha hs hs2) fun σ H Q ⟨μ, m, h, S, V, hp⟩ => ⟨μ, m, h, S, V, Post.bnd hp fun ds h1 m1 H1 vs _ S1 X1 r1 hp1 => by
    split at hp1
    · rename_i i j _
      simp only [RepA, Rep, RepP] at r1
      obtain ⟨v, _, rfl, rfl, w, _, rfl, rfl, rfl⟩ := r1
      obtain ⟨z, hp1⟩ := chk_post hp1
      exact ⟨i, j, rfl, z, Post.ret hp1 S1 (walks_rng i (j - i).toNat)⟩
    · exact hp1.elim⟩
/-- the signs of a text -/
def sgnL (x : Str) : List D := x.cps.toList.map fun c => .p (.str ⟨#[c]⟩)
theorem walks_str {T : Tx} {m : Mm} {H : Hp} (x : Str) : WalksD T m H (Its x) (sgnL x) := by
  refine ⟨fun m' H' h' X S i d e => ?_, fun m' H' h' X S => by simp [sgnL, Its]⟩
  simp only [sgnL, List.getElem?_map, Option.map_eq_some_iff] at e
  obtain ⟨c, e, rfl⟩ := e
  have e' : x.cps[i]? = some c := by simpa using e
  have hl : i < x.cps.size := by
    rcases Nat.lt_or_ge i x.cps.size with q | q
    · exact q
    · rw [Array.getElem?_eq_none q] at e'; cases e'
  refine ⟨hl, fun y H2 hy => ?_⟩
  obtain ⟨rfl, c', hc, rfl⟩ := hy
  rw [e'] at hc
  cases hc
  exact ⟨S, Ext.refl, by simp [Rep, RepP]⟩
def itS (f : Ev → M D) : Ev → M (List D) := fun μ => bnd (f μ) fun d => match d with
  | .p (.str x) => ret (sgnL x)
  | _ => bad
theorem is_str (he : ES X W e fe) : IS X W tg e (itS fe) := pi_imp (pi_str he) fun σ H Q ⟨μ, m, h, S, V, hp⟩ => ⟨μ, m, h, S, V, Post.bnd hp fun d h1 m1 H1 v _ S1 X1 r1 hp1 => by
  split at hp1
  · simp only [Rep, RepP] at r1
    exact ⟨_, r1, Post.ret hp1 S1 (walks_str _)⟩
  · exact hp1.elim⟩
end

/-! ### for -/
def forL (g : D → Ev → Hm → Option Ev) (body : Ev → M Fl) : List D → Ev → M Fl
  | [], μ => ret (.nx μ)
  | d :: ds, μ => fun h => match g d μ h with
    | none => .bad
    | some μ' => bnd (body μ') (fun o => match o with
      | .nx μ2 => forL g body ds μ2
      | .ct μ2 => forL g body ds μ2
      | .bk μ2 => ret (.nx μ2)
      | .rt v => ret (.rt v)) h
def sFor (fi : Ev → M (List D)) (g : D → Ev → Hm → Option Ev) (body : Ev → M Fl) : Ev → M Fl := fun μ => bnd (fi μ) fun ds => forL g body ds μ
section
variable {X : Cx} {W : XK} {tg iter : Expr} {body : List Stmt} {fi : Ev → M (List D)} {g : D → Ev → Hm → Option Ev} {fb : Ev → M Fl} {pos : Pos}
theorem rd_for {S : List Nat} {E : Ends} {σ : L2.St} {H : Hp} (h : rdS (tx X W) (sFor fi g fb) E σ H) : tFor (rdI (tx X W) fi) (rdG (tx X W) S g) (rdS (tx X W) fb) E σ H := by
  obtain ⟨μ, m, h, Sm, V, hp⟩ := h
  refine ⟨μ, m, h, Sm, V, PostS.bnd hp fun ds h1 m1 H1 J _ S1 X1 r1 hp1 => ?_⟩
  refine ⟨fun i k σ H => ∃ μ m h, Sim X.w X.K X.mg m H h ∧ EnvR X.w X.K X.mg m H μ σ ∧ Ext m1 H1 m H ∧ PostS (tx X W) m H (forL g fb (ds.drop i) μ h) E ∧ k = ds.length - i ∧ i ≤ ds.length, ⟨_, μ, m1, h1, S1, V.mono X1, Ext.refl, hp1, rfl, Nat.zero_le _⟩, ?_⟩
  intro i k σ2 H2 ⟨μ2, m2, h2, S2, V2, X2, hp2, ek, hi⟩
  by_cases hl : i < ds.length
  · have ed : ds[i]? = some ds[i] := List.getElem?_eq_getElem hl
    obtain ⟨hgo, hy⟩ := r1.go m2 H2 h2 X2.mov S2 i _ ed
    rw [List.drop_eq_getElem_cons hl] at hp2
    refine .inr ⟨hgo, fun σ' H' => ∃ μ m h, Sim X.w X.K X.mg m H' h ∧ EnvR X.w X.K X.mg m H' μ σ' ∧ Ext m1 H1 m H' ∧ PostS (tx X W) m H' (forL g fb (ds.drop (i + 1)) μ h) E, fun σ' H' ⟨μ', m', h', a, b, c, d⟩ => ⟨ds.length - (i + 1), by omega, μ', m', h', a, b, c, d, rfl, hl⟩, fun x H3 hx => ?_⟩
    obtain ⟨S3, X3, r3⟩ := hy x H3 hx
    simp only [forL] at hp2
    cases eg : g ds[i] μ2 h2 with
    | none => rw [eg] at hp2; exact hp2.elim
    | some μ3 =>
      rw [eg] at hp2
      change PostS (tx X W) m2 H2 (bnd (fb μ3) _ h2) E at hp2
      refine ⟨μ2, m2, h2, ds[i], μ3, S3, V2.mono X3, r3, eg, fun σ4 V4 _ => ⟨μ3, m2, h2, S3, V4, ?_⟩⟩
      have hp3 := PostS.up S3 X3 hp2
      have X13 : Ext m1 H1 m2 H3 := X2.then S2 X3
      unfold bnd at hp3
      cases eb : fb μ3 h2 with
      | ok o h5 =>
        rw [eb] at hp3
        cases o with
        | nx μ5 => exact fun m5 H5 σ5 S5 X5 V5 => ⟨μ5, m5, h5, S5, V5, X13.then S3 X5, PostS.up S5 X5 hp3⟩
        | ct μ5 => exact fun m5 H5 σ5 S5 X5 V5 => ⟨μ5, m5, h5, S5, V5, X13.then S3 X5, PostS.up S5 X5 hp3⟩
        | bk μ5 => exact hp3
        | rt v => exact hp3
      | exc x h5 => rw [eb] at hp3; exact hp3
      | bad => rw [eb] at hp3; exact hp3
  · have hi' : i = ds.length := by omega
    subst hi'
    rw [List.drop_length] at hp2
    exact .inl ⟨r1.stop m2 H2 h2 X2.mov S2, hp2 m2 H2 σ2 S2 Ext.refl V2⟩
theorem ss_for {S : List Nat} (hp : PassesOwn (model X.prog X.w) X.A X.env X.xe) (hc : X.calm = true) (hi : IS X W tg iter fi) (hg : GS X (tx X W) tg S g) (hb : BS X W body fb) (hs : ∀ x, foldedSetIterable iter X.env x = pure x := by intro _; rfl) : SS X W (.For tg iter body [] pos) (sFor fi g fb) :=
  ps_imp (ps_for hp hc hi hg hb hs) fun E σ H h => rd_for h
end

/-! ### while -/
def whlL (c : Ev → M Bool) (body : Ev → M Fl) : Nat → Ev → M Fl
  | 0, _ => bad
  | n + 1, μ => bnd (c μ) fun b => if b = true then (bnd (body μ) fun o => match o with
      | .nx μ2 => whlL c body n μ2
      | .ct μ2 => whlL c body n μ2
      | .bk μ2 => ret (.nx μ2)
      | .rt v => ret (.rt v)) else ret (.nx μ)
section
variable {X : Cx} {W : XK} {c : Expr} {body : List Stmt} {fc : Ev → M Bool} {fb : Ev → M Fl} {pos : Pos}
theorem ss_while (n : Nat) (hp : PassesOwn (model X.prog X.w) X.A X.env X.xe) (hc : TsS X W c fc) (hb : BS X W body fb) : SS X W (.While c body [] pos) (whlL fc fb n) :=
  ps_imp (ps_while hp hc hb) fun E σ H ⟨μ, m, h, S, V, hp⟩ => by
    refine ⟨fun k σ H => ∃ μ m h, Sim X.w X.K X.mg m H h ∧ EnvR X.w X.K X.mg m H μ σ ∧ PostS (tx X W) m H (whlL fc fb k μ h) E, ⟨n, μ, m, h, S, V, hp⟩, ?_⟩
    intro k σ2 H2 ⟨μ2, m2, h2, S2, V2, hp2⟩
    cases k with
    | zero => exact hp2.elim
    | succ k =>
      simp only [whlL] at hp2
      refine ⟨μ2, m2, h2, S2, V2, PostS.bnd hp2 fun b h3 m3 H3 b' _ S3 X3 r3 hp3 => ?_⟩
      subst r3
      cases b' with
      | false => exact hp3 m3 H3 σ2 S3 Ext.refl (V2.mono X3)
      | true =>
        refine ⟨fun σ' H' => ∃ μ m h, Sim X.w X.K X.mg m H' h ∧ EnvR X.w X.K X.mg m H' μ σ' ∧ PostS (tx X W) m H' (whlL fc fb k μ h) E, fun σ' H' h => ⟨k, Nat.lt_succ_self _, h⟩, μ2, m3, h3, S3, V2.mono X3, ?_⟩
        simp only [if_true] at hp3
        unfold bnd at hp3
        cases eb : fb μ2 h3 with
        | ok o h5 =>
          rw [eb] at hp3
          cases o with
          | nx μ5 => exact fun m5 H5 σ5 S5 X5 V5 => ⟨μ5, m5, h5, S5, V5, PostS.up S5 X5 hp3⟩
          | ct μ5 => exact fun m5 H5 σ5 S5 X5 V5 => ⟨μ5, m5, h5, S5, V5, PostS.up S5 X5 hp3⟩
          | bk μ5 => exact hp3
          | rt v => exact hp3
        | exc x h5 => rw [eb] at hp3; exact hp3
        | bad => rw [eb] at hp3; exact hp3
end

/-! ### comprehensions -/
def wipeE (μ : Ev) : List Nat → Ev
  | [] => μ
  | v :: vs => (wipeE μ vs).set v none
theorem EnvR.wipe {w : World} {K : PySem.W.Frag} {mg : Str → Option Value} {m : Mm} {H : Hp} {μ : Ev} {σ : L2.St} (h : EnvR w K mg m H μ σ) : ∀ vs : List Nat, EnvR w K mg m H (wipeE μ vs) (L2.wipe σ vs)
  | [] => h
  | v :: vs => (EnvR.wipe h vs).unset v
theorem wipe_get {σ : L2.St} {i : Nat} : ∀ {vs : List Nat}, i ∈ vs → i < σ.length → (L2.wipe σ vs)[i]? = some none
  | [], h, _ => by cases h
  | v :: vs, h, hl => by
    show ((L2.wipe σ vs).set v none)[i]? = some none
    by_cases e : v = i
    · subst e
      rw [List.getElem?_set_self (by rw [L2.wipe_length]; exact hl)]
    · rw [List.getElem?_set_ne e]
      rcases List.mem_cons.mp h with q | q
      · exact absurd q.symm e
      · exact wipe_get q hl
theorem wipe_agr {σ σ' : L2.St} {S vs : List Nat} (hs : ∀ i ∈ S, i ∈ vs) (a : Agr S (L2.wipe σ vs) σ') : L2.wipe σ' vs = L2.wipe σ vs := by
  refine List.ext_getElem? fun i => ?_
  have hl : σ'.length = σ.length := by rw [a.len, L2.wipe_length]
  by_cases h : i ∈ vs
  · by_cases q : i < σ.length
    · rw [wipe_get h (by rw [hl]; exact q), wipe_get h q]
    · rw [List.getElem?_eq_none (by rw [L2.wipe_length, hl]; omega), List.getElem?_eq_none (by rw [L2.wipe_length]; omega)]
  · rw [L2.wipe_out h, a.at_ i fun z => h (hs i z)]
def cmpL (g : D → Ev → Hm → Option Ev) (tt : Ev → M Bool) (te : Ev → M D) (μ : Ev) : List D → M (List D)
  | [] => ret []
  | d :: ds => fun h => match g d μ h with
    | none => .bad
    | some μ1 => bnd (tt μ1) (fun b => if b = true then bnd (te μ1) fun y => bnd (cmpL g tt te μ ds) fun ys => ret (y :: ys) else cmpL g tt te μ ds) h
/-- nothing is raised -/
def nox {α : Type} (f : M α) : M α := fun h => match f h with
  | .ok a h' => .ok a h'
  | _ => .bad
def cmpE (fin : List D → M D) (fi : Ev → M (List D)) (vs : List Nat) (g : D → Ev → Hm → Option Ev) (tt : Ev → M Bool) (te : Ev → M D) : Ev → M D := fun μ => bnd (fi μ) fun ds => bnd (nox (cmpL g tt te (wipeE μ vs) ds)) fin
def yesT : Ev → M Bool := fun _ => ret true
section
variable {X : Cx} {W : XK} {elt tg iter : Expr} {ifs : List Expr} {scope : Scope} {own : List (Str × Nat)} {fi : Ev → M (List D)} {g : D → Ev → Hm → Option Ev} {tt : Ev → M Bool} {te : Ev → M D} {pos : Pos} {S : List Nat}
abbrev tb (X : Cx) : Tx := ⟨X.w, X.K, X.mg, E0⟩
theorem Post.nox {α β : Type} {T : Tx} {m : Mm} {H : Hp} {rel : Mm → Hp → α → β → Prop} {f : M α} {h : Hm} {Q : β → Hp → Prop} (hp : Post T m H rel (nox f h) Q) : ∃ a h', f h = .ok a h' ∧ Post T m H rel (.ok a h') Q := by
  unfold MP.nox at hp
  cases e : f h with
  | ok a h' => rw [e] at hp; exact ⟨a, h', rfl, hp⟩
  | exc x h' => rw [e] at hp; exact hp.elim
  | bad => rw [e] at hp; exact hp.elim
/-- a run that came to an end, wanted as it is -/
theorem run_post {α : Type} {T : Tx} {m : Mm} {H : Hp} {β : Type} {rel : Mm → Hp → α → β → Prop} {f : M α} {h h' : Hm} {a : α} (e : f h = .ok a h') (Q : β → Hp → Prop) (q : ∀ m' H' b, Sim T.w T.K T.mg m' H' h' → Ext m H m' H' → rel m' H' a b → Q b H') : Post T m H rel (f h) Q := by
  rw [e]; exact q
theorem bnd_ok {α β : Type} {f : M α} {g : α → M β} {h h' : Hm} {b : β} (e : bnd f g h = .ok b h') : ∃ a h1, f h = .ok a h1 ∧ g a h1 = .ok b h' := by
  unfold bnd at e
  cases q : f h with
  | ok a h1 => rw [q] at e; exact ⟨a, h1, rfl, e⟩
  | exc x h1 => rw [q] at e; cases e
  | bad => rw [q] at e; cases e
theorem bnd_run {α β : Type} {T : Tx} {m : Mm} {H : Hp} {rel : Mm → Hp → D → β → Prop} {f : M α} {g : α → M D} {h : Hm} {Q : β → Hp → Prop} (hp : Post T m H rel (bnd (MP.nox f) g h) Q) : ∃ a h', f h = .ok a h' ∧ Post T m H rel (g a h') Q := by
  unfold bnd MP.nox at hp
  cases e : f h with
  | ok a h' => rw [e] at hp; exact ⟨a, h', rfl, hp⟩
  | exc x h' => rw [e] at hp; exact hp.elim
  | bad => rw [e] at hp; exact hp.elim
/-- a list that is being made at p: acc, with the values vs -/
structure Mkg (T : Tx) (m1 : Mm) (H1 : Hp) (p : Addr) (m : Mm) (H : Hp) (h : Hm) (acc : List D) (vs : List V) : Prop where
  S : Sim T.w T.K T.mg m H h
  v : m.v = p :: m1.v
  M : Mov m1 H1 m H
  X : Ext m1 H1 ⟨m.c, m1.v⟩ H
  at_ : H p = some (.lst vs)
  ra : RepA T.w T.K T.mg m H acc vs
theorem Mkg.mem {T : Tx} {m1 m : Mm} {H1 H : Hp} {p : Addr} {h : Hm} {acc : List D} {vs : List V} (G : Mkg T m1 H1 p m H h acc vs) : p ∈ m.v := by rw [G.v]; exact List.mem_cons_self ..
theorem Mkg.begin {T : Tx} {m1 : Mm} {H1 : Hp} {p : Addr} {h : Hm} (S : Sim T.w T.K T.mg m1 H1 h) (hp : H1 p = none) : Mkg T m1 H1 p (m1.hide p) (upd H1 p (.lst [])) h [] [] :=
  ⟨S.hide hp, rfl, Mov.hide hp, ⟨⟨[], by simp [Mm.hide], by simp⟩, rfl, fun a o q _ => by rw [upd_ne (ne_of_none q hp)]; exact q⟩, upd_same, by simp [RepA]⟩
theorem Mkg.on {T : Tx} {m1 m m' : Mm} {H1 H H' : Hp} {p : Addr} {h h' : Hm} {acc : List D} {vs : List V} (G : Mkg T m1 H1 p m H h acc vs) (S' : Sim T.w T.K T.mg m' H' h') (E : Ext m H m' H') : Mkg T m1 H1 p m' H' h' acc vs := by
  refine ⟨S', E.same.trans G.v, G.M.trans E.mov, ?_, E.keep _ _ G.at_ (G.S.pv p G.mem).2, G.ra.mono E⟩
  have Y : Ext ⟨m.c, m1.v⟩ H ⟨m'.c, m1.v⟩ H' := ⟨E.pre, rfl, E.keep⟩
  refine G.X.trans Y fun a ha => ?_
  obtain ⟨t, et, _⟩ := G.X.pre
  have et' : m.c = m1.c ++ t := et
  exact G.S.isSomec (by rw [et']; exact List.mem_append_left _ ha)
theorem Mkg.add {T : Tx} {m1 m : Mm} {H1 H : Hp} {p : Addr} {h : Hm} {acc : List D} {vs : List V} {y : D} {v : V} (G : Mkg T m1 H1 p m H h acc vs) (hp : H1 p = none) (rv : Rep T.w T.K T.mg m H y v) : Mkg T m1 H1 p m (upd H p (.lst (vs ++ [v]))) h (acc ++ [y]) (vs ++ [v]) := by
  refine ⟨G.S.priv G.mem, G.v, G.M.trans (Mov.priv G.mem), ⟨G.X.pre, rfl, fun a o q z => ?_⟩, upd_same, ?_⟩
  · rw [upd_ne (ne_of_none q hp)]
    exact G.X.keep a o q z
  · exact RepA.append (RepA.mov (Mov.priv G.mem) _ _ G.ra) (by simp only [RepA]; exact ⟨v, [], rfl, Rep.mov (Mov.priv G.mem) _ _ rv, rfl⟩)
theorem Mov.give {m : Mm} {H : Hp} {p : Addr} : Mov (m.hide p) H (m.push p) H :=
  ⟨fun n a h => by
    have h' : m.c[n]? = some a := h
    show (m.c ++ [p])[n]? = some a
    rw [List.getElem?_append_left (by
      rcases Nat.lt_or_ge n m.c.length with q | q
      · exact q
      · rw [List.getElem?_eq_none_iff.mpr q] at h'; cases h')]
    exact h', fun a u h n => ⟨h, by
      rintro (z | z)
      · rcases List.mem_append.mp z with z | z
        · exact n (Or.inl z)
        · exact n (Or.inr (by rw [List.mem_singleton.mp z]; exact List.mem_cons_self ..))
      · exact n (Or.inr (List.mem_cons_of_mem _ z))⟩⟩
theorem Sim.give {w : World} {K : PySem.W.Frag} {mg : Str → Option Value} {m : Mm} {H : Hp} {h : Hm} {p : Addr} {c : C} (S : Sim w K mg (m.hide p) H h) (hp : p ∉ m.v) (hc : CellR w K mg (m.push p) H p c) : Sim w K mg (m.push p) H (h ++ [c]) := by
  have hpc : p ∉ m.c := (S.pv p (List.mem_cons_self ..)).2
  have hl : m.c.length = h.length := S.len
  refine ⟨by simp [hl, Mm.push], List.nodup_append.mpr ⟨S.nd, by simp, fun a ha b hb e => ?_⟩, fun a ha => ⟨(S.pv a (List.mem_cons_of_mem _ ha)).1, fun z => ?_⟩, fun n a d ha hd => ?_⟩
  · rw [List.mem_singleton] at hb
    rw [e, hb] at ha
    exact hpc ha
  · rcases List.mem_append.mp z with z | z
    · exact (S.pv a (List.mem_cons_of_mem _ ha)).2 z
    · rw [List.mem_singleton.mp z] at ha
      exact hp ha
  · have ha : (m.c ++ [p])[n]? = some a := ha
    rcases Nat.lt_or_ge n m.c.length with q | q
    · rw [List.getElem?_append_left q] at ha
      rw [List.getElem?_append_left (by rw [← hl]; exact q)] at hd
      exact (S.at_ n a d ha hd).mov Mov.give rfl
    · rw [List.getElem?_append_right q] at ha
      rw [List.getElem?_append_right (by rw [← hl]; exact q), ← hl] at hd
      cases k : n - m.c.length with
      | zero =>
        rw [k] at ha hd
        simp only [List.getElem?_cons_zero, Option.some.injEq] at ha hd
        subst ha; subst hd
        exact hc
      | succ j => rw [k] at ha; simp at ha
/-- what the made list becomes -/
structure FinOk (X : Cx) (W : XK) (fin : List D → M D) : Prop where
  len : ∀ {m : Mm} {H : Hp} {h : Hm} {ys : List D} {Q : VK}, Post (tx X W) m H (Rep X.w X.K X.mg) (fin ys h) Q → ys.length ≤ sizeLine
  go : ∀ {m1 m : Mm} {H1 H : Hp} {h : Hm} {ys : List D} {vs : List V} {p : Addr} {Q : VK}, p ∉ m1 → H1 p = none → Mkg (tb X) m1 H1 p m H h ys vs → Post (tx X W) m1 H1 (Rep X.w X.K X.mg) (fin ys h) Q → Q (.ref p) H
theorem Mkg.hid {T : Tx} {m1 m : Mm} {H1 H : Hp} {p : Addr} {h : Hm} {acc : List D} {vs : List V} (G : Mkg T m1 H1 p m H h acc vs) : m = Mm.hide ⟨m.c, m1.v⟩ p := by
  obtain ⟨c, v⟩ := m
  have ev : v = p :: m1.v := G.v
  subst ev
  rfl
/-- data, not to be changed -/
theorem fin_lst : FinOk X W mkLst := by
  refine ⟨fun hp => (chk_post hp).1, fun {m1 m H1 H h ys vs p Q} n1 n2 G hp => ?_⟩
  obtain ⟨_, hp⟩ := chk_post hp
  cases epl : plain ys with
  | none => rw [epl] at hp; exact hp.elim
  | some xs =>
    rw [epl] at hp
    have em := G.hid
    have S2 := G.S
    have ra := G.ra
    rw [em] at S2 ra
    have nin : p ∉ (⟨m.c, m1.v⟩ : Mm) := by
      rintro (z | z)
      · exact (G.S.pv p G.mem).2 z
      · exact n1 (Or.inr z)
    exact hp _ H _ S2.show G.X (by simp only [Rep, RepP]; exact ⟨p, vs, rfl, .inl ⟨.inl G.at_, nin⟩, plain_rep epl (RepA.mov Mov.show _ _ ra)⟩)
/-- a new cell -/
theorem fin_cel : FinOk X W newL := by
  refine ⟨fun hp => (chk_post hp).1, fun {m1 m H1 H h ys vs p Q} n1 n2 G hp => ?_⟩
  obtain ⟨_, hp⟩ := chk_post hp
  have em := G.hid
  have S2 := G.S
  have ra := G.ra
  rw [em] at S2 ra
  have hpv : p ∉ (⟨m.c, m1.v⟩ : Mm).v := fun z => n1 (Or.inr z)
  have S3 : Sim X.w X.K X.mg (Mm.push ⟨m.c, m1.v⟩ p) H (h ++ [.lst ys]) := S2.give hpv ⟨vs, G.at_, RepA.mov Mov.give _ _ ra⟩
  have hl : m.c.length = h.length := G.S.len
  refine hp (Mm.push ⟨m.c, m1.v⟩ p) H _ S3 ⟨?_, rfl, G.X.keep⟩ ?_
  · obtain ⟨t, et, ht⟩ := G.X.pre
    have et' : m.c = m1.c ++ t := et
    refine ⟨t ++ [p], by show m.c ++ [p] = _; rw [et', List.append_assoc], fun a ha => ?_⟩
    rcases List.mem_append.mp ha with z | z
    · exact ht a z
    · rw [List.mem_singleton.mp z]; exact n2
  · simp only [Rep]
    refine ⟨p, rfl, ?_⟩
    show (m.c ++ [p])[h.length]? = some p
    rw [← hl]
    simp
theorem rd_cmp {fin : List D → M D} (hF : FinOk X W fin) (hS : ∀ i ∈ S, i ∈ own.map (·.2)) {σ : L2.St} {H : Hp} {Q : VK} (h : rdE (tx X W) (cmpE fin fi (own.map (·.2)) g tt te) σ H Q) :
    tLc (rdI (tx X W) fi) (rdG (tb X) S g) (rdT (tb X) tt) (rdE (tb X) te) (own.map (·.2)) σ H Q := by
  obtain ⟨μ, m, h, Sm, V, hp⟩ := h
  refine ⟨μ, m, h, Sm, V, Post.bnd hp fun ds h1 m1 H1 J _ S1 X1 r1 hp1 => ?_⟩
  intro Da hD
  have n1 : Da ∉ m1 := S1.notin hD
  obtain ⟨ys, hz, er, hp1⟩ := bnd_run hp1
  have hlen := hF.len hp1
  refine ⟨fun i k H => ∃ m h acc vacc rest, Mkg (tb X) m1 H1 Da m H h acc vacc ∧ cmpL g tt te (wipeE μ (own.map (·.2))) (ds.drop i) h = .ok rest hz ∧ ys = acc ++ rest ∧ k = ds.length - i ∧ i ≤ ds.length,
    ⟨_, m1.hide Da, h1, [], [], ys, Mkg.begin S1 hD, er, rfl, rfl, Nat.zero_le _⟩, ?_⟩
  intro i k H2 ⟨m2, h2, acc, vacc, rest, G2, ec, ey, ek, hi⟩
  by_cases hl : i < ds.length
  · have ed : ds[i]? = some ds[i] := List.getElem?_eq_getElem hl
    obtain ⟨hgo, hy⟩ := r1.go m2 H2 h2 G2.M G2.S i _ ed
    rw [List.drop_eq_getElem_cons hl] at ec
    refine .inr ⟨hgo, fun H' => ∃ m h acc vacc rest, Mkg (tb X) m1 H1 Da m H' h acc vacc ∧ cmpL g tt te (wipeE μ (own.map (·.2))) (ds.drop (i + 1)) h = .ok rest hz ∧ ys = acc ++ rest, fun H' ⟨a1, a2, a3, a4, a5, b1, b2, b3⟩ => ⟨ds.length - (i + 1), by omega, a1, a2, a3, a4, a5, b1, b2, b3, rfl, hl⟩, fun x H3 hx => ?_⟩
    obtain ⟨S3, X3, r3⟩ := hy x H3 hx
    simp only [cmpL] at ec
    cases eg : g ds[i] (wipeE μ (own.map (·.2))) h2 with
    | none => rw [eg] at ec; cases ec
    | some μ3 =>
      rw [eg] at ec
      have G3 := G2.on S3 X3
      have V3 : EnvR X.w X.K X.mg m2 H3 (wipeE μ (own.map (·.2))) (L2.wipe σ (own.map (·.2))) := ((V.mono X1).mov G3.M).wipe _
      refine ⟨wipeE μ (own.map (·.2)), m2, h2, ds[i], μ3, S3, V3, r3, eg, fun σ4 V4 A4 => ⟨wipe_agr hS A4, ?_⟩⟩
      obtain ⟨b, h5, eb, ec⟩ := bnd_ok ec
      refine ⟨μ3, m2, h2, S3, V4, run_post eb _ fun m5 H5 b' S5 X5 rb => ?_⟩
      subst rb
      have G5 := G3.on S5 X5
      cases b' with
      | false =>
        simp only [Bool.false_eq_true, if_false] at ec
        exact ⟨m5, h5, acc, vacc, rest, G5, ec, ey⟩
      | true =>
        simp only [if_true] at ec
        obtain ⟨y, h6, ee, ecb⟩ := bnd_ok ec
        obtain ⟨ys2, h7, ecc, e7⟩ := bnd_ok ecb
        simp only [ret, R.ok.injEq] at e7
        obtain ⟨e7, e8⟩ := e7
        subst e8
        refine ⟨μ3, m5, h5, S5, V4.mono X5, run_post ee _ fun m6 H6 v S6 X6 rv => ?_⟩
        have G6 := G5.on S6 X6
        have hacc : acc.length < ys.length := by rw [ey, ← e7]; simp
        exact ⟨vacc, G6.at_, by rw [G6.ra.length]; omega, m6, h6, acc ++ [y], vacc ++ [v], ys2, G6.add hD rv, ecc, by rw [ey, ← e7]; simp⟩
  · have hi' : i = ds.length := by omega
    subst hi'
    rw [List.drop_length] at ec
    simp only [cmpL, ret, R.ok.injEq] at ec
    obtain ⟨e1, e3⟩ := ec
    subst e1 e3
    rw [List.append_nil] at ey
    subst ey
    exact .inl ⟨r1.stop m2 H2 h2 G2.M G2.S, hF.go n1 hD G2 hp1⟩
/-- two fors -/
def cmpL2 (g : D → Ev → Hm → Option Ev) (tt : Ev → M Bool) (fi1 : Ev → M (List D)) (vs1 : List Nat) (g1 : D → Ev → Hm → Option Ev) (tt1 : Ev → M Bool) (te : Ev → M D) (μ : Ev) : List D → M (List D)
  | [] => ret []
  | d :: ds => fun h => match g d μ h with
    | none => .bad
    | some μ1 => bnd (tt μ1) (fun b => if b = true then bnd (fi1 μ1) fun es => bnd (cmpL g1 tt1 te (wipeE μ1 vs1) es) fun ys => bnd (cmpL2 g tt fi1 vs1 g1 tt1 te μ ds) fun zs => ret (ys ++ zs) else cmpL2 g tt fi1 vs1 g1 tt1 te μ ds) h
def cmpE2 (fin : List D → M D) (fi : Ev → M (List D)) (vs : List Nat) (g : D → Ev → Hm → Option Ev) (tt : Ev → M Bool) (fi1 : Ev → M (List D)) (vs1 : List Nat) (g1 : D → Ev → Hm → Option Ev) (tt1 : Ev → M Bool) (te : Ev → M D) : Ev → M D := fun μ => bnd (fi μ) fun ds => bnd (nox (cmpL2 g tt fi1 vs1 g1 tt1 te (wipeE μ vs) ds)) fin
theorem rd_cmp2 {fin : List D → M D} {fi1 : Ev → M (List D)} {vs1 : List Nat} {g1 : D → Ev → Hm → Option Ev} {tt1 : Ev → M Bool} {S1' : List Nat} (hF : FinOk X W fin) (hS : ∀ i ∈ S, i ∈ own.map (·.2)) (hS1 : ∀ i ∈ S1', i ∈ vs1) {σ : L2.St} {H : Hp} {Q : VK}
    (h : rdE (tx X W) (cmpE2 fin fi (own.map (·.2)) g tt fi1 vs1 g1 tt1 te) σ H Q) :
    tLc2 (rdI (tx X W) fi) (rdG (tb X) S g) (rdT (tb X) tt) (rdI (tb X) fi1) (rdG (tb X) S1' g1) (rdT (tb X) tt1) (rdE (tb X) te) (own.map (·.2)) vs1 σ H Q := by
  obtain ⟨μ, m, h, Sm, V, hp⟩ := h
  refine ⟨μ, m, h, Sm, V, Post.bnd hp fun ds h1 m1 H1 J _ S1 X1 r1 hp1 => ?_⟩
  intro Da hD
  have n1 : Da ∉ m1 := S1.notin hD
  obtain ⟨ys, hz, er, hp1⟩ := bnd_run hp1
  have hlen := hF.len hp1
  refine ⟨fun i k H => ∃ m h acc vacc rest, Mkg (tb X) m1 H1 Da m H h acc vacc ∧ cmpL2 g tt fi1 vs1 g1 tt1 te (wipeE μ (own.map (·.2))) (ds.drop i) h = .ok rest hz ∧ ys = acc ++ rest ∧ k = ds.length - i ∧ i ≤ ds.length,
    ⟨_, m1.hide Da, h1, [], [], ys, Mkg.begin S1 hD, er, rfl, rfl, Nat.zero_le _⟩, ?_⟩
  intro i k H2 ⟨m2, h2, acc, vacc, rest, G2, ec, ey, ek, hi⟩
  by_cases hl : i < ds.length
  · have ed : ds[i]? = some ds[i] := List.getElem?_eq_getElem hl
    obtain ⟨hgo, hy⟩ := r1.go m2 H2 h2 G2.M G2.S i _ ed
    rw [List.drop_eq_getElem_cons hl] at ec
    refine .inr ⟨hgo, fun H' => ∃ m h acc vacc rest, Mkg (tb X) m1 H1 Da m H' h acc vacc ∧ cmpL2 g tt fi1 vs1 g1 tt1 te (wipeE μ (own.map (·.2))) (ds.drop (i + 1)) h = .ok rest hz ∧ ys = acc ++ rest, fun H' ⟨a1, a2, a3, a4, a5, b1, b2, b3⟩ => ⟨ds.length - (i + 1), by omega, a1, a2, a3, a4, a5, b1, b2, b3, rfl, hl⟩, fun x H3 hx => ?_⟩
    obtain ⟨S3, X3, r3⟩ := hy x H3 hx
    simp only [cmpL2] at ec
    cases eg : g ds[i] (wipeE μ (own.map (·.2))) h2 with
    | none => rw [eg] at ec; cases ec
    | some μ3 =>
      rw [eg] at ec
      have G3 := G2.on S3 X3
      have V3 : EnvR X.w X.K X.mg m2 H3 (wipeE μ (own.map (·.2))) (L2.wipe σ (own.map (·.2))) := ((V.mono X1).mov G3.M).wipe _
      refine ⟨wipeE μ (own.map (·.2)), m2, h2, ds[i], μ3, S3, V3, r3, eg, fun σ4 V4 A4 => ⟨wipe_agr hS A4, ?_⟩⟩
      obtain ⟨b, h5, eb, ec⟩ := bnd_ok ec
      refine ⟨μ3, m2, h2, S3, V4, run_post eb _ fun m5 H5 b' S5 X5 rb => ?_⟩
      subst rb
      have G5 := G3.on S5 X5
      cases b' with
      | false =>
        simp only [Bool.false_eq_true, if_false] at ec
        exact ⟨m5, h5, acc, vacc, rest, G5, ec, ey⟩
      | true =>
        simp only [if_true] at ec
        obtain ⟨es, h6, ee, ecb⟩ := bnd_ok ec
        obtain ⟨ys1, h7, ec1, ecc⟩ := bnd_ok ecb
        obtain ⟨zs, h8, ec2, e7⟩ := bnd_ok ecc
        simp only [ret, R.ok.injEq] at e7
        obtain ⟨e7, e8⟩ := e7
        subst e8
        have V5 := V4.mono X5
        refine ⟨μ3, m5, h5, S5, V5, run_post ee _ fun m6 H6 J1 S6 X6 r6 => ?_⟩
        have G6 := G5.on S6 X6
        refine ⟨fun j k H => ∃ m h acc vacc rest, Mkg (tb X) m1 H1 Da m H h acc vacc ∧ Mov m6 H6 m H ∧ cmpL g1 tt1 te (wipeE μ3 vs1) (es.drop j) h = .ok rest h7 ∧ ys = acc ++ (rest ++ zs) ∧ k = es.length - j ∧ j ≤ es.length,
          ⟨_, m6, h6, acc, vacc, ys1, G6, Ext.refl.mov, ec1, by rw [ey, ← e7], rfl, Nat.zero_le _⟩, ?_⟩
        intro j k' Ha ⟨ma, ha, acc, vacc, rest1, Ga, Ma, eca, eya, eka, hj⟩
        by_cases hl1 : j < es.length
        · have ed1 : es[j]? = some es[j] := List.getElem?_eq_getElem hl1
          obtain ⟨hgo1, hy1⟩ := r6.go ma Ha ha Ma Ga.S j _ ed1
          rw [List.drop_eq_getElem_cons hl1] at eca
          refine .inr ⟨hgo1, fun H' => ∃ m h acc vacc rest, Mkg (tb X) m1 H1 Da m H' h acc vacc ∧ Mov m6 H6 m H' ∧ cmpL g1 tt1 te (wipeE μ3 vs1) (es.drop (j + 1)) h = .ok rest h7 ∧ ys = acc ++ (rest ++ zs), fun H' ⟨a1, a2, a3, a4, a5, b1, b2, b3, b4⟩ => ⟨es.length - (j + 1), by omega, a1, a2, a3, a4, a5, b1, b2, b3, b4, rfl, hl1⟩, fun x1 Hb hx1 => ?_⟩
          obtain ⟨Sb, Xb, rb⟩ := hy1 x1 Hb hx1
          simp only [cmpL] at eca
          cases eg1 : g1 es[j] (wipeE μ3 vs1) ha with
          | none => rw [eg1] at eca; cases eca
          | some μ4 =>
            rw [eg1] at eca
            have Gb := Ga.on Sb Xb
            have Vb : EnvR X.w X.K X.mg ma Hb (wipeE μ3 vs1) (L2.wipe σ4 vs1) := (((V5.mono X6).mov Ma).mono Xb).wipe _
            refine ⟨wipeE μ3 vs1, ma, ha, es[j], μ4, Sb, Vb, rb, eg1, fun σ5 Vc Ac => ⟨wipe_agr hS1 Ac, ?_⟩⟩
            obtain ⟨b1, hc, eb1, eca⟩ := bnd_ok eca
            refine ⟨μ4, ma, ha, Sb, Vc, run_post eb1 _ fun md Hd b1' Sd Xd rb1 => ?_⟩
            subst rb1
            have Gd := Gb.on Sd Xd
            have Md := (Ma.trans Xb.mov).trans Xd.mov
            cases b1' with
            | false =>
              simp only [Bool.false_eq_true, if_false] at eca
              exact ⟨md, hc, acc, vacc, rest1, Gd, Md, eca, eya⟩
            | true =>
              simp only [if_true] at eca
              obtain ⟨y, he, ee1, ecd⟩ := bnd_ok eca
              obtain ⟨ys2, hf, ece, e9⟩ := bnd_ok ecd
              simp only [ret, R.ok.injEq] at e9
              obtain ⟨e9, e10⟩ := e9
              subst e10
              refine ⟨μ4, md, hc, Sd, Vc.mono Xd, run_post ee1 _ fun me He v Se Xe rv => ?_⟩
              have Ge := Gd.on Se Xe
              have hacc : acc.length < ys.length := by rw [eya, ← e9]; simp
              exact ⟨vacc, Ge.at_, by rw [Ge.ra.length]; omega, me, he, acc ++ [y], vacc ++ [v], ys2, Ge.add hD rv, (Md.trans Xe.mov).trans (Mov.priv Ge.mem), ece, by rw [eya, ← e9]; simp⟩
        · have hj' : j = es.length := by omega
          subst hj'
          rw [List.drop_length] at eca
          simp only [cmpL, ret, R.ok.injEq] at eca
          obtain ⟨e1, e3⟩ := eca
          subst e1 e3
          exact .inl ⟨r6.stop ma Ha _ Ma Ga.S, ma, _, acc, vacc, zs, Ga, ec2, by rw [eya, List.nil_append]⟩
  · have hi' : i = ds.length := by omega
    subst hi'
    rw [List.drop_length] at ec
    simp only [cmpL2, ret, R.ok.injEq] at ec
    obtain ⟨e1, e3⟩ := ec
    subst e1 e3
    rw [List.append_nil] at ey
    subst ey
    exact .inl ⟨r1.stop m2 H2 h2 G2.M G2.S, hF.go n1 hD G2 hp1⟩
theorem es_cmp_ {wi : TI} {fin : List D → M D} (hF : FinOk X W fin) (hS : ∀ i ∈ S, i ∈ own.map (·.2)) (hc : X.calm = true) (hN : X.N.Nodup) (hi : IS X W tg iter fi) (ok : BlkOk X.N X.env.scope scope own)
    (hg : ∀ (s : Shared) (H : Hp) (C : Addr) (cl : List (Str × Addr)) (fp : List Addr), GS (X.blk s H scope (compEnvC scope cl C X.env) fp) (tb X) tg S g) (ht : ∀ (s : Shared) (H : Hp) (C : Addr) (cl : List (Str × Addr)) (fp : List Addr), PTs (X.blk s H scope (compEnvC scope cl C X.env) fp) ifs (rdT (tb X) tt))
    (he : ∀ (s : Shared) (H : Hp) (C : Addr) (cl : List (Str × Addr)) (fp : List Addr), PE (X.blk s H scope (compEnvC scope cl C X.env) fp) elt (rdE (tb X) te)) (hs : ∀ x, foldedSetIterable iter X.env x = pure x := by intro _; rfl) :
    ES X W (.ListComp elt [⟨tg, iter, ifs, 0⟩] scope pos) (cmpE fin fi (own.map (·.2)) g tt te) :=
  pe_imp (pe_lc hc hN hi ok hg ht he hs) fun σ H Q h => rd_cmp hF hS h
/-- name = [..] -/
theorem ss_cmp {i : Nat} {y : Str} {py spos : Pos} {fin : List D → M D} (hF : FinOk X W fin) (hS : ∀ i ∈ S, i ∈ own.map (·.2)) (hc : X.calm = true) (hN : X.N.Nodup) (hy : X.N[i]? = some y) (hyl : X.env.scope.names.lookup y = some .local) (hsw : swapsWith (.ListComp elt [⟨tg, iter, ifs, 0⟩] scope pos) (some (.Name y py)) spos.line X.env = pure true) (hi : IS X W tg iter fi) (ok : BlkOk X.N X.env.scope scope own)
    (hg : ∀ (s : Shared) (H : Hp) (C : Addr) (cl : List (Str × Addr)) (fp : List Addr), GS (X.blk s H scope (compEnvC scope cl C X.env) fp) (tb X) tg S g) (ht : ∀ (s : Shared) (H : Hp) (C : Addr) (cl : List (Str × Addr)) (fp : List Addr), PTs (X.blk s H scope (compEnvC scope cl C X.env) fp) ifs (rdT (tb X) tt))
    (he : ∀ (s : Shared) (H : Hp) (C : Addr) (cl : List (Str × Addr)) (fp : List Addr), PE (X.blk s H scope (compEnvC scope cl C X.env) fp) elt (rdE (tb X) te)) (hs : ∀ x, foldedSetIterable iter X.env x = pure x := by intro _; rfl) :
    SS X W (.Assign [.Name y py] (.ListComp elt [⟨tg, iter, ifs, 0⟩] scope pos) spos) (sSet i (cmpE fin fi (own.map (·.2)) g tt te)) :=
  ps_imp (ps_setLc hc hN hy hyl hsw hi ok hg ht he hs) fun E σ H ⟨μ, m, h, S, V, hp⟩ => rd_cmp hF hS ⟨μ, m, h, S, V, PostS.bnd hp fun d h' m' H' v _ S' X' r hp' => hp' m' H' _ S' Ext.refl ((V.mono X').set r i)⟩
theorem es_cmp2 {wi : TI} {fin : List D → M D} {tg1 iter1 : Expr} {ifs1 : List Expr} {vs1 S1 : List Nat} {fi1 : Ev → M (List D)} {g1 : D → Ev → Hm → Option Ev} {tt1 : Ev → M Bool} (hF : FinOk X W fin) (hS : ∀ i ∈ S, i ∈ own.map (·.2)) (hS1 : ∀ i ∈ S1, i ∈ vs1) (hv : ∀ i ∈ vs1, i ∈ own.map (·.2)) (hc : X.calm = true) (hN : X.N.Nodup) (hi : IS X W tg iter fi) (ok : BlkOk X.N X.env.scope scope own)
    (hg : ∀ (s : Shared) (H : Hp) (C : Addr) (cl : List (Str × Addr)) (fp : List Addr), GS (X.blk s H scope (compEnvC scope cl C X.env) fp) (tb X) tg S g) (ht : ∀ (s : Shared) (H : Hp) (C : Addr) (cl : List (Str × Addr)) (fp : List Addr), PTs (X.blk s H scope (compEnvC scope cl C X.env) fp) ifs (rdT (tb X) tt))
    (hi1 : ∀ (s : Shared) (H : Hp) (C : Addr) (cl : List (Str × Addr)) (fp : List Addr), PI (X.blk s H scope (compEnvC scope cl C X.env) fp) tg1 iter1 (rdI (tb X) fi1))
    (hg1 : ∀ (s : Shared) (H : Hp) (C : Addr) (cl : List (Str × Addr)) (fp : List Addr), GS (X.blk s H scope (compEnvC scope cl C X.env) fp) (tb X) tg1 S1 g1) (ht1 : ∀ (s : Shared) (H : Hp) (C : Addr) (cl : List (Str × Addr)) (fp : List Addr), PTs (X.blk s H scope (compEnvC scope cl C X.env) fp) ifs1 (rdT (tb X) tt1))
    (he : ∀ (s : Shared) (H : Hp) (C : Addr) (cl : List (Str × Addr)) (fp : List Addr), PE (X.blk s H scope (compEnvC scope cl C X.env) fp) elt (rdE (tb X) te)) (hs : ∀ x, foldedSetIterable iter X.env x = pure x := by intro _; rfl) (hs1 : ∀ env x, foldedSetIterable iter1 env x = pure x := by intro _ _; rfl) :
    ES X W (.ListComp elt [⟨tg, iter, ifs, 0⟩, ⟨tg1, iter1, ifs1, 0⟩] scope pos) (cmpE2 fin fi (own.map (·.2)) g tt fi1 vs1 g1 tt1 te) :=
  pe_imp (pe_lc2 hc hN hi ok hv hg ht hi1 hg1 ht1 he hs hs1) fun σ H Q h => rd_cmp2 hF hS hS1 h
theorem ts_yes : PTs X [] (rdT (tb X) yesT) := ⟨fun pins s σ H Q I ⟨μ, m, h, S, V, hp⟩ => pts_nil.run pins s σ H Q I (Post.ret hp S rfl)⟩
theorem ts_one {c : Expr} {f : Ev → M Bool} {T : Tx} (h : PT X c (rdT T f)) : PTs X [c] (rdT T f) := pts_one h
end
end MP
/-! MP6: defs, their calls, the law's end (nothing is being shown when they are called). -/
namespace MP
open PySem PySem.Spec PyProof.Rows L2

/-! ### leaving a def: its own cells are frozen or forgotten -/
mutual
def lowD (n : Nat) : D → Bool
  | .p _ => true
  | .cell k => decide (k < n)
  | .mix xs => lowDs n xs
  | .glob _ => true
  | .ty _ => true
  | .fob _ fs => lowFs n fs
def lowDs (n : Nat) : List D → Bool
  | [] => true
  | x :: xs => lowD n x && lowDs n xs
def lowFs (n : Nat) : List (Str × D) → Bool
  | [] => true
  | (_, x) :: xs => lowD n x && lowFs n xs
end
def lowC (n : Nat) : C → Bool
  | .lst xs => lowDs n xs
  | .dct _ kvs => lowDs n (kvs.map (·.2))
  | .obj _ fs => lowFs n fs
def low (n : Nat) (h : Hm) : Bool := h.all (lowC n)
mutual
def frz (n : Nat) (h : Hm) : D → Option D
  | .p x => some (.p x)
  | .cell k => if k < n then some (.cell k) else match h[k]? with
    | some (.lst xs) => (plain xs).map fun ys => .p (.list ys)
    | some (.dct t kvs) => if t = false ∧ kvs = [] then none else (plain (kvs.map (·.2))).map fun vs => .p (.dict ((kvs.map (·.1)).zip vs))
    | _ => none
  | .mix xs => (frzs n h xs).map fun ys => match plain ys with
    | some zs => .p (.tuple zs)
    | none => .mix ys
  | .glob x => some (.glob x)
  | .ty m => some (.ty m)
  | .fob c fs => (frzFs n h fs).map (.fob c)
def frzs (n : Nat) (h : Hm) : List D → Option (List D)
  | [] => some []
  | x :: xs => (frz n h x).bind fun y => (frzs n h xs).map fun ys => y :: ys
def frzFs (n : Nat) (h : Hm) : List (Str × D) → Option (List (Str × D))
  | [] => some []
  | (x, d) :: xs => (frz n h d).bind fun y => (frzFs n h xs).map fun ys => (x, y) :: ys
end
/-- behind a def: n cells were there at its entry -/
def leave (n : Nat) (d : D) (h : Hm) : R D := if h.length = n then .ok d h else if low n (h.take n) = true then (match frz n h d with
    | some d' => .ok d' (h.take n)
    | none => .bad) else .bad
/-- .. keeping the new ones -/
def leaveK (n : Nat) (d : D) (h : Hm) : R D := .ok d h
def fnM (lv : Nat → D → Hm → R D) (N : Nat) (body : Ev → M Fl) : List D → M D := fun ds h => match body (ds.map some ++ List.replicate (N - ds.length) none) h with
  | .ok (.rt d) h' => lv h.length d h'
  | .ok (.nx _) h' => lv h.length (.p .none) h'
  | .exc e h' => .exc e h'
  | _ => .bad

def Mm.cut (m : Mm) (n : Nat) : Mm := ⟨m.c.take n, m.v⟩
section
variable {w : World} {K : PySem.W.Frag} {mg : Str → Option Value} {m m' : Mm} {H H' : Hp} {h h' : Hm}
theorem Mm.cut_sub {n : Nat} {a : Addr} (h : a ∈ m.cut n) : a ∈ m := h.imp (fun z => List.mem_of_mem_take z) id
theorem fro_cut {n : Nat} : Fro m H (m.cut n) H := fun a u r z => ⟨r, fun q => z (Mm.cut_sub q)⟩
theorem cut_at {n k : Nat} {a : Addr} (hk : k < n) (e : m.c[k]? = some a) : (m.cut n).c[k]? = some a := by
  show (m.c.take n)[k]? = some a
  rw [List.getElem?_take_of_lt hk]
  exact e
mutual
theorem Rep.cut {n : Nat} : ∀ (d : D) (v : V), lowD n d = true → Rep w K mg m H d v → Rep w K mg (m.cut n) H d v
  | .p x, v, _, r => by
    simp only [Rep] at r ⊢
    exact RepP.fro fro_cut x v r
  | .cell k, v, e, r => by
    simp only [Rep] at r ⊢
    obtain ⟨a, rfl, ha⟩ := r
    exact ⟨a, rfl, cut_at (by simpa only [lowD, decide_eq_true_eq] using e) ha⟩
  | .mix xs, v, e, r => by
    simp only [Rep] at r ⊢
    obtain ⟨a, vs, rfl, f, r⟩ := r
    exact ⟨a, vs, rfl, f.fro fro_cut, RepA.cut xs vs (by simpa only [lowD] using e) r⟩
  | .glob x, v, _, r => by simpa only [Rep] using r
  | .ty x, v, _, r => by simpa only [Rep] using r
  | .fob c fs, v, e, r => by
    simp only [Rep] at r ⊢
    obtain ⟨a, cc, dx, gs, rfl, g, f, r⟩ := r
    exact ⟨a, cc, dx, gs, rfl, g, ⟨f.1, fun q => f.2 (Mm.cut_sub q)⟩, RepF.cut fs gs (by simpa only [lowD] using e) r⟩
theorem RepA.cut {n : Nat} : ∀ (ds : List D) (vs : List V), lowDs n ds = true → RepA w K mg m H ds vs → RepA w K mg (m.cut n) H ds vs
  | [], vs, _, r => by simpa only [RepA] using r
  | d :: ds, vs, e, r => by
    simp only [RepA] at r ⊢
    simp only [lowDs, Bool.and_eq_true] at e
    obtain ⟨v, r', rfl, h1, h2⟩ := r
    exact ⟨v, r', rfl, Rep.cut d v e.1 h1, RepA.cut ds r' e.2 h2⟩
theorem RepF.cut {n : Nat} : ∀ (ds : List (Str × D)) (vs : List (Str × V)), lowFs n ds = true → RepF w K mg m H ds vs → RepF w K mg (m.cut n) H ds vs
  | [], vs, _, r => by simpa only [RepF] using r
  | (x, d) :: ds, vs, e, r => by
    simp only [RepF] at r ⊢
    simp only [lowFs, Bool.and_eq_true] at e
    obtain ⟨v, r', rfl, h1, h2⟩ := r
    exact ⟨v, r', rfl, Rep.cut d v e.1 h1, RepF.cut ds r' e.2 h2⟩
end
theorem CellR.cut {n : Nat} {a : Addr} {c : C} (e : lowC n c = true) (r : CellR w K mg m H a c) : CellR w K mg (m.cut n) H a c := by
  cases c with
  | lst xs => obtain ⟨vs, q, r⟩ := r; exact ⟨vs, q, RepA.cut _ _ e r⟩
  | dct t kvs =>
    obtain ⟨vs, r, q⟩ := r
    exact ⟨vs, RepA.cut _ _ e r, q.imp id fun ⟨a, xs, b, c, k, d⟩ => ⟨a, xs, b, c, RepPs.fro fro_cut _ _ k, d⟩⟩
  | obj cls fs => obtain ⟨c, dx, gs, g, q, r⟩ := r; exact ⟨c, dx, gs, g, q, RepF.cut _ _ e r⟩
theorem Sim.cut {n : Nat} (S : Sim w K mg m H h) (hn : n ≤ h.length) (e : low n (h.take n) = true) : Sim w K mg (m.cut n) H (h.take n) := by
  refine ⟨by simp only [Mm.cut, List.length_take, S.len], (List.take_sublist n m.c).nodup S.nd, fun a ha => ⟨(S.pv a ha).1, fun z => (S.pv a ha).2 (List.mem_of_mem_take z)⟩, fun k a c ha hc => ?_⟩
  have hk : k < n := by
    rcases Nat.lt_or_ge k n with q | q
    · exact q
    · rw [List.getElem?_eq_none (by simp only [List.length_take]; omega)] at hc; cases hc
  have ha' : m.c[k]? = some a := by
    have : (m.c.take n)[k]? = some a := ha
    rwa [List.getElem?_take_of_lt hk] at this
  have hc' : h[k]? = some c := by rwa [List.getElem?_take_of_lt hk] at hc
  exact (S.at_ k a c ha' hc').cut (List.all_eq_true.mp e c (List.mem_of_getElem? hc))
mutual
theorem Rep.frz {n : Nat} (S : Sim w K mg m H h) : ∀ (d d' : D) (v : V), MP.frz n h d = some d' → Rep w K mg m H d v → Rep w K mg (m.cut n) H d' v
  | .p x, d', v, e, r => by
    simp only [MP.frz, Option.some.injEq] at e
    subst e
    exact Rep.cut (.p x) v rfl r
  | .cell k, d', v, e, r => by
    simp only [MP.frz] at e
    by_cases hk : k < n
    · rw [if_pos hk] at e
      cases e
      exact Rep.cut (.cell k) v (decide_eq_true hk) r
    · rw [if_neg hk] at e
      simp only [Rep] at r
      obtain ⟨a, rfl, ha⟩ := r
      have nin : a ∉ m.cut n := by
        rintro (z | z)
        · obtain ⟨j, hj⟩ := List.getElem?_of_mem z
          have hj' : (m.c.take n)[j]? = some a := hj
          have jl : j < n := by
            rcases Nat.lt_or_ge j n with q | q
            · exact q
            · rw [List.getElem?_eq_none (by simp only [List.length_take]; omega)] at hj'; cases hj'
          rw [List.getElem?_take_of_lt jl] at hj'
          exact hk (by rw [nodup_at S.nd ha hj']; exact jl)
        · exact (S.pv a z).2 (List.mem_of_getElem? ha)
      cases q : h[k]? with
      | none => rw [q] at e; cases e
      | some c =>
        rw [q] at e
        have cr := S.at_ k a c ha q
        cases c with
        | lst xs =>
          simp only [Option.map_eq_some_iff] at e
          obtain ⟨ys, e, rfl⟩ := e
          obtain ⟨vs, hv, rv⟩ := cr
          simp only [Rep, RepP]
          exact ⟨a, vs, rfl, .inl ⟨.inl hv, nin⟩, RepPs.fro fro_cut _ _ (plain_rep e rv)⟩
        | dct t kvs =>
          by_cases hem : t = false ∧ kvs = []
          · simp only [if_pos hem] at e; cases e
          simp only [if_neg hem, Option.map_eq_some_iff] at e
          obtain ⟨ys, e, rfl⟩ := e
          obtain ⟨vs, rv, hv⟩ := cr
          have rp := plain_rep e rv
          have hl : (kvs.map (·.1)).length = ys.length := by
            have h1 := rp.length
            have h2 := rv.length
            simp only [List.length_map] at h2 ⊢
            omega
          have e1 : ((kvs.map (·.1)).zip ys).map (·.1) = kvs.map (·.1) := List.map_fst_zip (Nat.le_of_eq hl)
          have e2 : ((kvs.map (·.1)).zip ys).map (·.2) = ys := List.map_snd_zip (Nat.le_of_eq hl.symm)
          simp only [Rep, RepP]
          rcases hv with ⟨ht, kk, a1, a2, a3⟩ | ⟨_, xs, dn, a2, a3, a4⟩
          · refine ⟨a, kk.map fun p => kV p.1, vs, rfl, ⟨nin, .inl ⟨kk, fun z => hem ⟨ht, by subst z; simpa using a2.symm⟩, a1, by rw [e1]; exact a2, a3⟩⟩, repKs_iff.mpr ?_, repVs_iff.mpr (by rw [e2]; exact RepPs.fro fro_cut _ _ rp)⟩
            rw [e1, ← a2]
            exact keysK_rep kk
          · exact ⟨a, keysV xs, vs, rfl, ⟨nin, .inr ⟨xs, dn, by rw [e1]; exact a2, rfl, a4⟩⟩, repKs_iff.mpr (by rw [e1]; exact RepPs.fro fro_cut _ _ a3), repVs_iff.mpr (by rw [e2]; exact RepPs.fro fro_cut _ _ rp)⟩
        | obj cls fs => cases e
  | .mix xs, d', v, e, r => by
    simp only [MP.frz, Option.map_eq_some_iff] at e
    obtain ⟨ys, e, e2⟩ := e
    simp only [Rep] at r
    obtain ⟨a, vs, rfl, f, r⟩ := r
    have r' := RepA.frz S xs ys vs e r
    cases q : plain ys with
    | some zs =>
      rw [q] at e2
      subst e2
      simp only [Rep, RepP]
      exact ⟨a, vs, rfl, f.fro fro_cut, plain_rep q r'⟩
    | none =>
      rw [q] at e2
      subst e2
      simp only [Rep]
      exact ⟨a, vs, rfl, f.fro fro_cut, r'⟩
  | .glob x, d', v, e, r => by
    simp only [MP.frz, Option.some.injEq] at e
    subst e
    simpa only [Rep] using r
  | .ty x, d', v, e, r => by
    simp only [MP.frz, Option.some.injEq] at e
    subst e
    simpa only [Rep] using r
  | .fob c fs, d', v, e, r => by
    simp only [MP.frz, Option.map_eq_some_iff] at e
    obtain ⟨ys, e, rfl⟩ := e
    simp only [Rep] at r ⊢
    obtain ⟨a, cc, dx, gs, rfl, g, f, r⟩ := r
    exact ⟨a, cc, dx, gs, rfl, g, ⟨f.1, fun q => f.2 (Mm.cut_sub q)⟩, RepF.frz S fs ys gs e r⟩
theorem RepA.frz {n : Nat} (S : Sim w K mg m H h) : ∀ (ds ds' : List D) (vs : List V), MP.frzs n h ds = some ds' → RepA w K mg m H ds vs → RepA w K mg (m.cut n) H ds' vs
  | [], ds', vs, e, r => by
    simp only [MP.frzs, Option.some.injEq] at e
    subst e
    simpa only [RepA] using r
  | d :: ds, ds', vs, e, r => by
    simp only [MP.frzs, Option.bind_eq_some_iff, Option.map_eq_some_iff] at e
    obtain ⟨y, e1, ys, e2, rfl⟩ := e
    simp only [RepA] at r ⊢
    obtain ⟨v, r', rfl, h1, h2⟩ := r
    exact ⟨v, r', rfl, Rep.frz S d y v e1 h1, RepA.frz S ds ys r' e2 h2⟩
theorem RepF.frz {n : Nat} (S : Sim w K mg m H h) : ∀ (ds ds' : List (Str × D)) (vs : List (Str × V)), MP.frzFs n h ds = some ds' → RepF w K mg m H ds vs → RepF w K mg (m.cut n) H ds' vs
  | [], ds', vs, e, r => by
    simp only [MP.frzFs, Option.some.injEq] at e
    subst e
    simpa only [RepF] using r
  | (x, d) :: ds, ds', vs, e, r => by
    simp only [MP.frzFs, Option.bind_eq_some_iff, Option.map_eq_some_iff] at e
    obtain ⟨y, e1, ys, e2, rfl⟩ := e
    simp only [RepF] at r ⊢
    obtain ⟨v, r', rfl, h1, h2⟩ := r
    exact ⟨v, r', rfl, Rep.frz S d y v e1 h1, RepF.frz S ds ys r' e2 h2⟩
end
end
/-- a way of leaving -/
def Lv (lv : Nat → D → Hm → R D) : Prop :=
  ∀ (T : Tx) (m : Mm) (H : Hp) (h : Hm) (m' : Mm) (H' : Hp) (h' : Hm) (d : D) (v : V) (Q : VK), Sim T.w T.K T.mg m H h → Sim T.w T.K T.mg m' H' h' → Ext m H m' H' → Rep T.w T.K T.mg m' H' d v → Post T m H (Rep T.w T.K T.mg) (lv h.length d h') Q → Q v H'
theorem lv_keep : Lv leaveK := fun T m H h m' H' h' d v Q S S' X r q => q m' H' v S' X r
theorem lv_leave : Lv leave := fun T m H h m' H' h' d v Q S S' X r q => by
  unfold leave at q
  by_cases hl : h'.length = h.length
  · rw [if_pos hl] at q
    exact q m' H' v S' X r
  · rw [if_neg hl] at q
    by_cases lo : low h.length (h'.take h.length) = true
    · rw [if_pos lo] at q
      cases e : frz h.length h' d with
      | none => rw [e] at q; exact q.elim
      | some d' =>
        rw [e] at q
        obtain ⟨t, et, ht⟩ := X.pre
        have hn : h.length ≤ h'.length := by rw [← S.len, ← S'.len, et, List.length_append]; omega
        have em : m'.cut h.length = m := by
          unfold Mm.cut
          rw [et, X.same, ← S.len, List.take_left]
        have S2 := S'.cut hn lo
        rw [em] at S2
        have r2 := Rep.frz (n := h.length) S' d d' v e r
        rw [em] at r2
        exact q m H' v S2 ⟨⟨[], by simp, by simp⟩, rfl, X.keep⟩ r2
    · rw [if_neg lo] at q; exact q.elim

/-! ### what a def promises, nothing being shown -/
structure FG (P : Program) (w : World) (K : PySem.W.Frag) (mg : Str → Option Value) (base : Heap) (CX : CXT) (k : Nat) (f : Addr) (fd : FuncData) (ps : List Str) (sp : Sp) : Prop where
  len : ∀ vs H Q E, sp vs H Q E → vs.length = ps.length
  run : ∀ (A : Around) (outer : List Env) (s : Shared) (H : Hp) (args : Args) (us : List Value) (vs : List V) (Q : VK) (E : XK), Room k A → A.guards = some [] → Env0 P w K mg base A outer s H → BindsTo s fd args (ps.zip us) → Vals vs us → sp vs H Q E →
    codeAny (model P w) A (.call (.ref f) args) (CR CX outer P w H s Q E) s
def spF (w : World) (K : PySem.W.Frag) (mg : Str → Option Value) (n : Nat) (F : List D → M D) : Sp := fun vs H Q E =>
  vs.length = n ∧ ∃ ds m h, Sim w K mg m H h ∧ RepA w K mg m H ds vs ∧ Post ⟨w, K, mg, E⟩ m H (Rep w K mg) (F ds h) Q
theorem FG.up {P : Program} {w : World} {K : PySem.W.Frag} {mg : Str → Option Value} {base : Heap} {CX : CXT} {j k : Nat} {f : Addr} {fd : FuncData} {ps : List Str} {sp : Sp} (F : FG P w K mg base CX j f fd ps sp) (h : j ≤ k) : FG P w K mg base CX k f fd ps sp :=
  ⟨F.len, fun A o s H a us vs Q E hr => F.run A o s H a us vs Q E (hr.mono h)⟩
section
variable {P : Program} {w : World} {K : PySem.W.Frag} {mg : Str → Option Value} {base : Heap} {CX : CXT}
/-- a def by its body -/
theorem fg_body {x qual : Str} {st : Stmt} {f : Addr} {fd : FuncData} {N ps : List Str} {k : Nat} {sp : Sp} (F : Fun K x qual st f fd) (S : FnScope N ps (defScope st)) (len : ∀ vs H Q E, sp vs H Q E → vs.length = ps.length)
    (hb : ∀ (cdv : Value) (A : Around) (outer : List Env) (s : Shared) (H : Hp) (vs : List V) (Q : VK) (E : XK), Room k (A.deeper (envOfC qual (defScope st) s.heap.objs.size f cdv)) → (A.deeper (envOfC qual (defScope st) s.heap.objs.size f cdv)).guards = some [] → sp vs H Q E →
      ∃ t, PSs (cxOf CX P w K mg base N qual (defScope st) f cdv A outer s H E) (defBody st) t ∧ t { nx := fun _ H' => Q .non H', rt := Q } (L2.start N vs) H) : FG P w K mg base CX (k + 1) f fd ps sp := by
  obtain ⟨oc, od, kV, doc, pm, an, cdv, ct, osl, rfl, at_f, at_c⟩ := F.ex
  refine ⟨len, fun A outer s H args us vs Q E room gd env bd rel want => ?_⟩
  have kin : K.In s.heap := env.mod.kin.keeps fun b o e => (env.bs b o e).1
  have nol : s.heap.NoLimit := env.mod.nolimit.keeps fun b o e => (env.bs b o e).1
  have kinds : ∀ y ∈ ps.zip us, (defScope st).names.lookup y.1 = some .local ∨ ((defScope st).names.lookup y.1 = some .cell ∧ ((cellsFrom (s.heap.objs.size + 1) (defScope st).names []).lookup y.1).isSome = true) := by
    rintro ⟨nm, val⟩ hy
    have par := S.par nm (List.of_mem_zip hy).1
    exact par.imp id fun q => ⟨q, PySem.W.cellsFrom_some _ _ _ (.inl q)⟩
  refine codeAny_call_function room.depth (kin _ _ at_f) rfl S.co S.gen rfl (PySem.W.codeRec_of kin at_c) (bd _ _ _ _ ?_)
  refine wpAny_newFunctionEnv_cells S.kind kinds fun env' he s1 ic => ?_
  subst he
  refine ⟨nol.keeps ic.toInCall.keep, codeAny_func ?_⟩
  obtain ⟨t, body, tq⟩ := hb cdv A outer s H vs Q E (room.deeper _) gd want
  have I0 : Inv (cxOf CX P w K mg base N qual (defScope st) f cdv A outer s H E) [] (L2.start N vs) H s1 := inv_start S room.hd env (len _ _ _ _ want) rel ic
  refine wpAny_mono (body.run [] s1 (L2.start N vs) H _ I0 tq) (fun fl s' at_end => ?_) fun _ _ z => z
  match fl, at_end with
  | .ret u, ⟨v, σ', H', J, rv, q⟩ => exact (⟨v, H', J.os, J.bare, J.base, J.hok, rv, q⟩ : CE outer P w H s Q u s')
  | .next, ⟨σ', H', J, q⟩ => exact (⟨.non, H', J.os, J.bare, J.base, J.hok, rfl, q⟩ : CE outer P w H s Q .none s')
  | .brk, ⟨_, _, _, q⟩ => exact q.elim
  | .cont, ⟨_, _, _, q⟩ => exact q.elim
theorem start_env {w : World} {K : PySem.W.Frag} {mg : Str → Option Value} {m : Mm} {H : Hp} {N : List Str} {ds : List D} {vs : List V} (r : RepA w K mg m H ds vs) : EnvR w K mg m H (ds.map some ++ List.replicate (N.length - ds.length) none) (L2.start N vs) := by
  have hl := r.length
  refine ⟨by simp [L2.start, hl], fun i d e => ?_⟩
  unfold L2.start
  rcases Nat.lt_or_ge i ds.length with q | q
  · rw [List.getElem?_append_left (by simpa using q), List.getElem?_map] at e
    simp only [Option.map_eq_some_iff, Option.some.injEq, exists_eq_right] at e
    obtain ⟨v, hv, rv⟩ := repA_at r e
    refine ⟨v, ?_, rv⟩
    rw [List.getElem?_append_left (by simpa [hl] using q), List.getElem?_map, hv]
    rfl
  · rw [List.getElem?_append_right (by simpa using q), List.getElem?_replicate] at e
    split at e <;> simp at e
/-- a def that raises nothing -/
theorem fg_fn {x qual : Str} {st : Stmt} {f : Addr} {fd : FuncData} {N ps : List Str} {k n : Nat} {lv : Nat → D → Hm → R D} {body : Ev → M Fl} (F : Fun K x qual st f fd) (S : FnScope N ps (defScope st)) (hlv : Lv lv) (hn : ps.length = n)
    (hb : ∀ (cdv : Value) (A : Around) (outer : List Env) (s : Shared) (H : Hp) (E : XK), Room k (A.deeper (envOfC qual (defScope st) s.heap.objs.size f cdv)) → (A.deeper (envOfC qual (defScope st) s.heap.objs.size f cdv)).guards = some [] →
      BS (cxOf CX0 P w K mg base N qual (defScope st) f cdv A outer s H E).nox E0 (defBody st) body) : FG P w K mg base CX0 (k + 1) f fd ps (spF w K mg n (nox ∘ fnM lv N.length body)) := by
  refine fg_body F S (fun vs H Q E h => h.1.trans hn.symm) fun cdv A outer s H vs Q E room gd h => ?_
  obtain ⟨hl, ds, m, h0, Sm, r, hp⟩ := h
  refine ⟨_, (hb cdv A outer s H E room gd).nox, _, m, h0, Sm, start_env r, ?_⟩
  obtain ⟨d0, h9, e9, hp⟩ := Post.nox hp
  unfold fnM at e9
  cases eb : body (ds.map some ++ List.replicate (N.length - ds.length) none) h0 with
  | ok fl h' =>
    rw [eb] at e9
    cases fl with
    | rt d =>
      intro m' H' v S' X' rv
      refine hlv ⟨w, K, mg, E⟩ m H h0 m' H' h' d v Q Sm S' X' rv ?_
      rw [show lv h0.length d h' = _ from e9]
      exact hp
    | nx μ =>
      intro m' H' σ' S' X' V'
      refine hlv ⟨w, K, mg, E⟩ m H h0 m' H' h' (.p .none) .non Q Sm S' X' (by simp [Rep, RepP]) ?_
      rw [show lv h0.length (.p .none) h' = _ from e9]
      exact hp
    | bk μ => cases e9
    | ct μ => cases e9
  | exc x h' => rw [eb] at e9; cases e9
  | bad => rw [eb] at e9; cases e9
end

/-! ### calls -/
section
variable {X : Cx} {W : XK} {CX : CXT} {k : Nat} {f : Addr} {fd : FuncData} {ps : List Str} {sp : Sp} {dvs : List V} {ds : List Value} {E : XK} {x : Str} {p pos : Pos} {e : Expr} {es : List Expr}
theorem run_g {pins : List (Addr × Obj)} {σ : L2.St} {H : Hp} {s : Shared} {Q : VK} {us : List Value} {vs : List V} (F : FG X.prog X.w X.K X.mg X.base CX k f fd ps sp) (hr : Room k X.A) (gd : X.A.guards = some []) (hb : Binds X.K fd ps ds) (hd : Vals dvs ds) (hx : Passes CX X E)
    (I : Inv X pins σ H s) (r : Vals vs us) (want : sp (vs ++ dvs) H Q E) : wpAny (model X.prog X.w) X.A (call (.ref f) us) (EP X pins σ Q) X.xe s := by
  have both : Vals (vs ++ dvs) (us ++ ds) := r.append hd
  refine wpAny_call (codeAny_mono (F.run X.A X.stack s H ⟨us, []⟩ (us ++ ds) (vs ++ dvs) Q E hr gd I.env0 (hb s us I.kIn (both.length.symm.trans (F.len _ _ _ _ want))) both want) fun res s' out => ?_)
  match res, out with
  | .error ex, out => exact hx pins σ H s ex s' I out
  | .ok (.ret u), out => exact I.after out
  | .ok .next, out => exact out.elim
  | .ok .brk, out => exact out.elim
  | .ok .cont, out => exact out.elim
theorem pe_callG {t : TA} (F : FG X.prog X.w X.K X.mg X.base CX k f fd ps sp) (hr : Room k X.A) (gd : X.A.guards = some []) (hg : Gl X x) (hm : X.mg x = some (.ref f)) (hk : PySem.W.keepIn X.K (.ref f) = true) (hb : Binds X.K fd ps ds) (hd : Vals dvs ds) (hx : Passes CX X E)
    (ha : PA X (e :: es) t) (hdb : (x == ("__debug__" : Str)) = false := by decide) (he : starEach (e :: es) X.env = (false, eval e X.env) :: starEach es X.env := by rfl) (hpl : (backTo pos (starEach es X.env)).any (·.1) = false := by rfl) :
    PE X (.Call (.Name x p) (e :: es) [] pos) (tCall sp dvs E t) :=
  ⟨fun pins s σ H Q I want => wpAny_Call_Name_kw (ld_glob I hg hm (PySem.W.callWith_K (h₀ := X.base) I.ok.mod.kin hk (thn (ha.run pos pins s σ H _ I want) fun us s1 ⟨vs, H1, I1, r, q⟩ => ⟨I1.kIn, run_g F hr gd hb hd hx I1 r q⟩) he hpl) hdb)⟩
theorem pe_callG0 (F : FG X.prog X.w X.K X.mg X.base CX k f fd ps sp) (hr : Room k X.A) (gd : X.A.guards = some []) (hg : Gl X x) (hm : X.mg x = some (.ref f)) (hk : PySem.W.keepIn X.K (.ref f) = true) (hb : Binds X.K fd ps ds) (hd : Vals dvs ds) (hx : Passes CX X E)
    (hdb : (x == ("__debug__" : Str)) = false := by decide) : PE X (.Call (.Name x p) [] [] pos) (tCall sp dvs E tNil) :=
  ⟨fun pins s σ H Q I want => wpAny_Call_Name_kw (ld_glob I hg hm (PySem.W.callWith_K0 I.kIn hk (run_g (us := []) F hr gd hb hd hx I .nil want)) hdb)⟩
/-- what a caller knows of a def of the module -/
structure Def (P : Program) (w : World) (K : PySem.W.Frag) (mg : Str → Option Value) (base : Heap) (k : Nat) (x : Str) (n : Nat) (F : List D → M D) : Prop where
  ex : ∃ (f : Addr) (fd : FuncData) (ps : List Str), FG P w K mg base CX0 k f fd ps (spF w K mg n F) ∧ mg x = some (.ref f) ∧ PySem.W.keepIn K (.ref f) = true ∧ Binds K fd ps []
def appN (n : Nat) (F : List D → M D) (fa : Ev → M (List D)) : Ev → M D := fun μ => bnd (fa μ) fun xs => chk (xs.length = n) (F xs)
theorem es_call {j n : Nat} {F : List D → M D} {fa : Ev → M (List D)} (d : Def X.prog X.w X.K X.mg X.base k x n (nox ∘ F)) (hr : Room j X.A) (hk : k ≤ j) (gd : X.A.guards = some []) (hg : Gl X x) (ha : AS X W (e :: es) fa) (hdb : (x == ("__debug__" : Str)) = false := by decide)
    (he : starEach (e :: es) X.env = (false, eval e X.env) :: starEach es X.env := by rfl) (hpl : (backTo pos (starEach es X.env)).any (·.1) = false := by rfl) :
    ES X W (.Call (.Name x p) (e :: es) [] pos) (appN n (nox ∘ F) fa) := by
  obtain ⟨f, fd, ps, FF, hm, kp, hb⟩ := d.ex
  refine pe_imp (pe_callG (dvs := []) (ds := []) (E := E0) FF (hr.mono hk) gd hg hm kp hb .nil pass0 ha hdb he hpl) fun σ H Q ⟨μ, m, h, S, V, hp⟩ => ⟨μ, m, h, S, V, Post.bnd hp fun xs h1 m1 H1 vs _ S1 X1 r1 hp1 => ?_⟩
  obtain ⟨hl, hp1⟩ := chk_post hp1
  have hp2 := hp1
  obtain ⟨d0, h9, e9, hp1⟩ := Post.nox hp1
  refine ⟨by rw [List.append_nil, r1.length]; exact hl, xs, m1, h1, S1, by rw [List.append_nil]; exact r1, ?_⟩
  have e0 : (nox ∘ F) xs h1 = .ok d0 h9 := by
    show nox (F xs) h1 = _
    unfold nox
    rw [e9]
  rw [e0]
  exact hp1
theorem es_call0 {j : Nat} {F : List D → M D} (d : Def X.prog X.w X.K X.mg X.base k x 0 (nox ∘ F)) (hr : Room j X.A) (hk : k ≤ j) (gd : X.A.guards = some []) (hg : Gl X x) (hdb : (x == ("__debug__" : Str)) = false := by decide) :
    ES X W (.Call (.Name x p) [] [] pos) (fun _ => (nox ∘ F) []) := by
  obtain ⟨f, fd, ps, FF, hm, kp, hb⟩ := d.ex
  refine pe_imp (pe_callG0 (dvs := []) (ds := []) (E := E0) FF (hr.mono hk) gd hg hm kp hb .nil pass0 hdb) fun σ H Q ⟨μ, m, h, S, V, hp⟩ => ?_
  obtain ⟨d0, h9, e9, hp⟩ := Post.nox hp
  refine ⟨rfl, [], m, h, S, by simp [RepA], ?_⟩
  have e0 : (nox ∘ F) [] h = .ok d0 h9 := by
    show nox (F []) h = _
    unfold nox
    rw [e9]
  rw [e0]
  exact hp
end

/-! ### the law's end -/
theorem only_rep {w : World} {K : PySem.W.Frag} {H : Hp} {a : Addr} {ns : List Int} (hS : SqL K H a (ns.map V.int)) : RepP w K ⟨[], []⟩ H (.list (ns.map .int)) (.ref a) := by
  simp only [RepP]
  have nums : ∀ ns : List Int, RepPs w K ⟨[], []⟩ H (ns.map .int) (ns.map V.int) := fun ns => by
    induction ns with
    | nil => simp [RepPs]
    | cons n ns ih => simp only [List.map_cons, RepPs, RepP]; exact ⟨_, _, rfl, rfl, ih⟩
  refine ⟨a, _, rfl, ?_, nums ns⟩
  rcases hS with h | h
  · exact .inl ⟨h, fun z => by rcases z with z | z <;> cases z⟩
  · exact .inr (.inr h)
theorem sim_nil {w : World} {K : PySem.W.Frag} {mg : Str → Option Value} {H : Hp} : Sim w K mg ⟨[], []⟩ H [] := ⟨rfl, .nil, (fun a h => by cases h), (fun n a c h => by simp at h)⟩
/-- the call of the law's def behind the top -/
theorem law_callG {P : Program} {w : World} {K : PySem.W.Frag} {mg mb : Str → Option Value} {k : Nat} {fa a : Addr} {fd : FuncData} {x : Str} {F : List D → M D} {s1 : Shared} {vs : List Value} {ns : List Int}
    (kin : K.In s1.heap) (gns : s1.heap.Ns mainGlobals mg) (bns : s1.heap.Ns builtinsNs mb) (bb : ∀ x : Str, x ≠ "__name__" → mb x = bootBuiltins x) (nol : s1.heap.NoLimit) (gens : s1.gens = #[])
    (at_a : s1.heap.get? a = some { cls := .type "list", data := .seq vs.toArray }) (nums : IntsAre vs ns) (few : ns.length ≤ sizeLine) (room : Room k callerA)
    (FF : ∀ base : Heap, K.In base → base.Ns mainGlobals mg → FG P w K mg base CX0 k fa fd [x] (spF w K mg 1 F)) (bd : ∀ (s : Shared) (u : Value), BindsTo s fd ⟨[u], []⟩ [(x, u)])
    (law : ∃ h', F [.p (.list (ns.map .int))] [] = .ok (.p (.bool true)) h') :
    codeAny (model P w) callerA (.call (.ref fa) ⟨[.ref a], []⟩) (fun r s' => r = .ok (.ret (.bool true)) ∧ OldK s1.heap s'.heap ∧ s'.os = s1.os ∧ AllBare s'.gens) s1 := by
  obtain ⟨hz, law⟩ := law
  have rv : Vals (ns.map V.int) vs := L2.vals_ints nums
  have same_len := nums.length
  -- H holds the script alone, or nothing
  have main : ∀ H : Hp, (∀ b u, H b = some u → b = a ∧ ∃ o xs, u = .frz o (.lst xs)) → SqL K H a (ns.map V.int) → HOk P w H s1.heap → (K.lookup a ≠ none → H a = none) →
      codeAny (model P w) callerA (.call (.ref fa) ⟨[.ref a], []⟩) (fun r s' => r = .ok (.ret (.bool true)) ∧ OldK s1.heap s'.heap ∧ s'.os = s1.os ∧ AllBare s'.gens) s1 := by
    intro H alone hS ok kfree
    have under : ∀ {b : Addr} {m : Str → Option Value}, s1.heap.Ns b m → (hidT s1.heap H).Ns b m := by
      rintro b m ⟨o, es, ep, e, d, r⟩
      refine ⟨o, es, ep, hidT_get e ?_, d, r⟩
      cases q : H b with
      | none => rfl
      | some u =>
        obtain ⟨rfl, _⟩ := alone b u q
        rw [at_a] at e
        cases e
        exact absurd (show Data.seq vs.toArray _ = Data.dict es ep from d) (fun z => nomatch z)
    have kbase : K.In (hidT s1.heap H) := fun b o e => hidT_get (kin b o e) (by
      cases q : H b with
      | none => rfl
      | some u =>
        obtain ⟨rfl, _⟩ := alone b u q
        rw [kfree (by rw [e]; simp)] at q
        cases q)
    obtain ⟨mc, n1, n2⟩ := nol
    have md : Mod K mg (hidT s1.heap H) := { kin := kbase, glob := under gns, blt := ⟨mb, under bns, bb⟩, nolimit := ⟨mc, under n1, n2⟩ }
    have env : Env0 P w K mg (hidT s1.heap H) callerA [] s1 H := { frames := rfl, mod := md, bs := fun b o e => of_hidT e, bsz := Nat.le_of_eq (hidT_size s1.heap H), funs := trivial, frf := fun b hb => (by cases hb), hok := ok, bare := .of_eq gens }
    refine codeAny_mono ((FF _ kbase (under gns)).run callerA [] s1 H ⟨[.ref a], []⟩ [.ref a] [.ref a] (fun v _ => v = .bl true) E0 room rfl env (bd s1 (.ref a)) (.cons rfl .nil) ⟨rfl, [.p (.list (ns.map .int))], ⟨[], []⟩, [], sim_nil, by simp only [RepA, Rep]; exact ⟨_, _, rfl, only_rep hS, rfl⟩, by
      rw [law]
      intro m' H' b S X r
      simp only [Rep, RepP] at r
      exact r⟩) fun res s' out => ?_
    match res, out with
    | .error _, out => exact out.elim
    | .ok .next, out => exact out.elim
    | .ok .brk, out => exact out.elim
    | .ok .cont, out => exact out.elim
    | .ok (.ret u), ⟨v, H', os, bare, un, ok', rel, q⟩ =>
      have q' : v = .bl true := q
      subst q'
      have eu : u = Value.bool true := rel
      subst eu
      refine ⟨rfl, OldK.of_keep fun b o e => ?_, os, bare⟩
      cases q : H b with
      | none => exact un.keep b o e q (fun z => (by cases z)) (fun z => (by cases z))
      | some t =>
        obtain ⟨rfl, ob, xs, rfl⟩ := alone b t q
        have e1 := (ok b _ q).1
        have e2 := (ok' b _ (un.frzs b ob _ q)).1
        rw [e] at e1
        cases e1
        exact e2
  by_cases hk : K.lookup a = none
  · refine main (fun b => if b = a then some (.frz { cls := .type "list", data := .seq vs.toArray } (.lst (ns.map V.int))) else none) (fun b u q => ?_) (.inl (.inr ⟨_, if_pos rfl⟩)) (fun b u q => ?_) (fun z => absurd hk z)
    · split at q
      · rename_i hb
        exact ⟨hb, _, _, (Option.some.inj q).symm⟩
      · cases q
    · dsimp only at q
      split at q
      · rename_i hb
        cases q
        subst hb
        exact ⟨at_a, by simpa using few, vs, _, rv, at_a⟩
      · cases q
  · obtain ⟨o, ho⟩ := Option.ne_none_iff_exists'.mp hk
    have e := kin a o ho
    rw [at_a] at e
    cases e
    exact main (fun _ => none) (fun b u q => by cases q) (.inr ⟨_, vs.toArray, _, ho, rfl, rfl, rfl, by simpa [same_len] using few, by simpa using rv⟩) (fun b u q => by cases q) (fun _ => rfl)
/-- what k_head leaves, from the law's mini function -/
theorem law_end {l : PySem.W.OpenLaw} {n k : Nat} {q : Program} {loose : List Str} {XP : (Str → Option Value) → Heap → Prop} {YP : World → Heap → Prop} {d : DefRec} {K : Params → PySem.W.Frag} {x : Str} {F : List D → M D}
    (hn : l.most = some n) (few : n ≤ sizeLine) (nodef : d.params.defaults = []) (room : Room k callerA) (hY : ∀ (w : World) (h : Heap), YP w h → (K w.params).In h)
    (FF : ∀ (w : World) (mg : Str → Option Value) (fa : Addr) (h : Heap), (K w.params).In h → h.Ns mainGlobals mg → mg d.name = some (.ref fa) →
      ∃ fd : FuncData, (∀ (s : Shared) (u : Value), BindsTo s fd ⟨[u], []⟩ [(x, u)]) ∧ ∀ base : Heap, (K w.params).In base → base.Ns mainGlobals mg → FG l.prog w (K w.params) mg base CX0 k fa fd [x] (spF w (K w.params) mg 1 F))
    (law : ∀ ns : List Int, ns.length ≤ n → ∃ h', F [.p (.list (ns.map .int))] [] = .ok (.p (.bool true)) h') :
    PySem.W.WalkO q loose XP YP l.row.toRowW d [] (fun f vs => PySem.call f vs) := by
  refine Att.attach_call hn nodef fun w s0 s1 mg mb fa o pm cd doc a vs ns G Y ho hd hcd hmg hobj nums hlen gens => ?_
  obtain ⟨fd, bd, hF⟩ := FF w mg fa _ (hY w _ Y) G.T.g hmg
  exact law_callG (hY w _ Y) G.T.g G.T.b G.T.builtins G.T.nolimit gens hobj nums (Nat.le_trans hlen few) room hF bd (law ns hlen)
end MP
/-! MP7: short forms for what a program of ours prints. -/
namespace MP
open PySem PySem.Spec PyProof.Rows L2
/-- a def of the module as it stands behind the top -/
structure DefAt (K : PySem.W.Frag) (mg : Str → Option Value) (x : Str) (st : Stmt) (ps : List Str) : Prop where
  ex : ∃ (f : Addr) (fd : FuncData), Fun K x x st f fd ∧ mg x = some (.ref f) ∧ Binds K fd ps []
theorem defAt_mk {K : PySem.W.Frag} {mg : Str → Option Value} {h : Heap} {x : Str} {st : Stmt} {ps : List Str} {f : Addr} {oc : Value} {od an : Option Addr} {osl : Array (Option Value)} {kV doc pm cdv ct : Value}
    (X : K.In h) (G : h.Ns mainGlobals mg) (a : PySem.W.nsIn K mainGlobals x = some (some (.ref f)))
    (l : K.lookup f = some ⟨oc, od, .func (PySem.W.fnOf x x (defArgs st) (defBody st) (defScope st) .none kV doc pm an cdv ct), osl⟩) (c : PySem.W.codeIn K cdv x = true) (k : PySem.W.keepIn K (.ref f) = true)
    (b : ∀ (kV doc pm : Value) (an : Option Addr) (cdv ct : Value) (us : List Value), us.length = ps.length → bindArgs (PySem.W.fnOf x x (defArgs st) (defBody st) (defScope st) .none kV doc pm an cdv ct) ⟨us, []⟩ = pure (ps.zip us)) : DefAt K mg x st ps :=
  ⟨f, _, fun_mk l c k, PySem.W.mg_of X G a, (fun_mk l c k).binds b⟩
section
variable {P : Program} {w : World} {K : PySem.W.Frag} {mg : Str → Option Value} {base : Heap}
/-- a def's mini function, from its body -/
theorem def_of {x : Str} {st : Stmt} {N ps : List Str} {k n : Nat} {lv : Nat → D → Hm → R D} {body : Ev → M Fl} (T : DefAt K mg x st ps) (S : FnScope N ps (defScope st)) (hlv : Lv lv) (hn : ps.length = n)
    (hb : ∀ (f : Addr) (cdv : Value) (A : Around) (outer : List Env) (s : Shared) (H : Hp) (E : XK), Room k (A.deeper (envOfC x (defScope st) s.heap.objs.size f cdv)) → (A.deeper (envOfC x (defScope st) s.heap.objs.size f cdv)).guards = some [] →
      BS (cxOf CX0 P w K mg base N x (defScope st) f cdv A outer s H E).nox E0 (defBody st) body) : Def P w K mg base (k + 1) x n (nox ∘ fnM lv N.length body) := by
  obtain ⟨f, fd, F, hm, b⟩ := T.ex
  exact ⟨f, fd, ps, fg_fn F S hlv hn fun cdv A outer s H E room gd => hb f cdv A outer s H E room gd, hm, F.kp, b⟩
theorem Def.up {j k n : Nat} {x : Str} {F : List D → M D} (d : Def P w K mg base j x n F) (h : j ≤ k) : Def P w K mg base k x n F := by
  obtain ⟨f, fd, ps, FF, r⟩ := d.ex
  exact ⟨f, fd, ps, FF.up h, r⟩
end
section
variable {X : Cx} {W : XK} {x : Str} {pos : Pos}
/-- a constant of the module: an int, a text, a truth, None -/
theorem es_gc {v : V} (d : PyData) (hg : Gl X x) (h : ∃ u, X.mg x = some u ∧ RelV v u) (rp : ∀ m H, RepP X.w X.K m H d v := by intro m H; simp only [RepP]) (hd : (x == ("__debug__" : Str)) = false := by decide) : ES X W (.Name x pos) (cst d) :=
  let ⟨_, hm, r⟩ := h
  es_glob d hg hm r rp hd
/-- a constant of the module that is an object of its own -/
theorem es_go {a : Addr} (d : PyData) (hg : Gl X x) (h : X.mg x = some (.ref a)) (rp : ∀ m H, RepP X.w X.K m H d (.ref a)) (hd : (x == ("__debug__" : Str)) = false := by decide) : ES X W (.Name x pos) (cst d) :=
  es_glob (v := .ref a) d hg h rfl rp hd
end
/-! ### {} -/
def emptyD : M D := ret (.p (.dict []))
def newK : Ev → M D := fun _ h => .ok (.cell h.length) (h ++ [.dct false []])
def newT : Ev → M D := fun _ h => .ok (.cell h.length) (h ++ [.dct true []])
section
variable {X : Cx} {W : XK} {pos : Pos}
theorem draw_empty {w : World} (h : Heap) : DRaw w h.objs.size [] 0 (h.push { cls := .type "dict", data := .dict #[] }) := ⟨_, #[], Heap.get?_push_size _ rfl, ⟨rfl, rfl, rfl⟩, rfl, rfl⟩
theorem draw_ext {P : Program} {w : World} {H : Hp} {h : Heap} {a : Addr} {xs : List (NestedKey × Addr × Value)} {ep : Nat} (d : DRaw w a xs ep h) : ObjOk P w H h a (.ext (DRaw w a xs ep)) :=
  ⟨d, let ⟨o, _, ho, _⟩ := d; ⟨o, ho⟩, fun _ _ ⟨o, es, ho, r⟩ k => ⟨o, es, k o ho, r⟩⟩
theorem pe_dnewN : PE X (.Dict [] [] pos) (fun _ H Q => ∀ p, H p = none → (p == sysModules) = false → Q (.ref p) (upd H p (.ext (DRaw X.w p [] 0)))) := ⟨fun pins s σ H Q I h =>
  wpAny_Dict_empty ⟨.ref s.heap.objs.size, _, I.laid (a := s.heap.objs.size) (o := .ext (DRaw X.w s.heap.objs.size [] 0)) (t' := s.toks) (fun _ _ q => Heap.get?_push_of_some _ q) (Nat.le_refl _) (draw_ext (draw_empty s.heap)), rfl,
    h _ (I.hok.fresh (Nat.le_refl _)) (beq_eq_false_iff_ne.mpr (Ne.symm (Nat.ne_of_lt I.big)))⟩⟩
theorem dn_empty {w : World} {H : Hp} {p : Addr} (hs : (p == sysModules) = false) : DN w (upd H p (.ext (DRaw w p [] 0))) p [] := ⟨hs, Nat.zero_le _, ⟨0, upd_same⟩, List.nodup_nil, fun _ h => nomatch h⟩
theorem es_emptyD : ES X W (.Dict [] [] pos) (fun _ => emptyD) := pe_imp pe_dnewN fun σ H Q ⟨μ, m, h, S, E, hp⟩ => fun p np hs =>
  hp m _ _ (S.new np) (Ext.new S np) (by simp only [Rep, RepP, RepVs, RepKs, List.map_nil]; exact ⟨p, [], [], rfl, ⟨S.notin np, .inr ⟨[], dn_empty hs, rfl, rfl, .nil⟩⟩, rfl, rfl⟩)
theorem es_newK : ES X W (.Dict [] [] pos) newK := pe_imp pe_dnewK fun σ H Q ⟨μ, m, h, S, E, hp⟩ => fun p np =>
  hp _ _ _ (S.push np (c := .dct false []) ⟨[], by simp [RepA], .inl ⟨rfl, [], upd_same, rfl, rfl⟩⟩) (Ext.push S np) (by simp only [Rep]; exact ⟨p, rfl, S.push_at⟩)
theorem es_newT : ES X W (.Dict [] [] pos) newT := pe_imp pe_dnewN fun σ H Q ⟨μ, m, h, S, E, hp⟩ => fun p np hs =>
  hp _ _ _ (S.push np (c := .dct true []) ⟨[], by simp [RepA], .inr ⟨rfl, [], dn_empty hs, rfl, by simp [RepPs, keysV], .nil⟩⟩) (Ext.push S np) (by simp only [Rep]; exact ⟨p, rfl, S.push_at⟩)
end
/-- nothing raised, nothing to stop -/
theorem nox_nox {α : Type} (f : M α) : nox (nox f) = nox f := by
  funext h
  unfold nox
  cases f h <;> rfl
/-- the law's def behind the top, from its mini function -/
theorem law_fn {l : PySem.W.OpenLaw} {w : World} {K : PySem.W.Frag} {mg : Str → Option Value} {fa : Addr} {k : Nat} {n x : Str} {F : List D → M D} (hfa : mg n = some (.ref fa)) {st : Stmt} (T : DefAt K mg n st [x])
    (bd : ∀ (kV doc pm : Value) (an : Option Addr) (cdv ct : Value) (s : Shared) (u : Value), BindsTo s (PySem.W.fnOf n n (defArgs st) (defBody st) (defScope st) .none kV doc pm an cdv ct) ⟨[u], []⟩ [(x, u)])
    (H : ∀ (base : Heap) (f : Addr) (fd : FuncData), Fun K n n st f fd → FG l.prog w K mg base CX0 k f fd [x] (spF w K mg 1 F)) :
    ∃ fd : FuncData, (∀ (s : Shared) (u : Value), BindsTo s fd ⟨[u], []⟩ [(x, u)]) ∧ ∀ base : Heap, K.In base → base.Ns mainGlobals mg → FG l.prog w K mg base CX0 k fa fd [x] (spF w K mg 1 F) := by
  obtain ⟨f, fd, Ff, hm, _⟩ := T.ex
  rw [hfa] at hm
  cases hm
  obtain ⟨oc, od, kV, doc, pm, an, cdv, ct, osl, rfl, _⟩ := Ff.ex
  exact ⟨_, fun s u => bd kV doc pm an cdv ct s u, fun base _ _ => H base fa _ Ff⟩
end MP
/-! MP8: walks over any sequence; a list or a tuple into names, with a star. -/
namespace MP
open PySem PySem.Spec PyProof.Rows L2
section
variable {X : Cx} {W : XK} {tg e : Expr} {fe : Ev → M D} {te : TE}
/-- what a for may walk: a list, a tuple, a text -/
def tWalk (K : PySem.W.Frag) (x : V) (H : Hp) (R : It → Hp → Prop) : Prop :=
  (∃ a xs, x = .ref a ∧ SqL K H a xs ∧ R (Itl K a) H) ∨ (∃ a xs, x = .ref a ∧ SqT K H a xs ∧ R (Itt K a) H) ∨ ∃ z, x = .str z ∧ R (Its z) H
theorem pi_walk (he : PE X e te) : PI X tg e (fun σ H R => te σ H fun x H1 => tWalk X.K x H1 R) := by
  refine ⟨fun pins s σ H R I h => thn (he.run pins s σ H _ I h) fun v s1 ⟨x, H1, I1, rv, q1⟩ => ?_⟩
  rcases q1 with ⟨a, xs, rfl, hq, q⟩ | ⟨a, xs, rfl, hq, q⟩ | ⟨z, rfl, q⟩
  · cases rv
    obtain ⟨its, _, pl, _⟩ := I1.list hq
    exact wpAny_pyIter_list pl.isList (pi_one (tk := s1.toks) I1 _ (turn_list a _) ⟨_, Heap.get?_push_size _ rfl, rfl, rfl⟩ q)
  · cases rv
    obtain ⟨its, _, pl, _⟩ := I1.tuple hq
    have pl' : s1.heap.IsTuple a its.toArray := pl
    exact wpAny_pyIter_tuple pl' (pi_one (tk := s1.toks) I1 _ (turn_tuple a _) ⟨_, Heap.get?_push_size _ rfl, rfl, rfl⟩ q)
  · obtain ⟨t, rfl⟩ := rv
    cases ha : z.cps.all (· < 128) with
    | false => exact wpAny_pyIter_wide ha (pi_one (tk := s1.toks) I1 _ (turn_str _ z t "str_iterator" (.inr rfl)) ⟨_, Heap.get?_push_size _ rfl, rfl, rfl⟩ q)
    | true => exact wpAny_pyIter_ascii ha (pi_one (tk := s1.toks) I1 _ (turn_str _ z t "str_ascii_iterator" (.inl rfl)) ⟨_, Heap.get?_push_size _ rfl, rfl, rfl⟩ q)
/-- the items of what may be walked -/
def seqD : D → Option (List D)
  | .p (.list xs) => some (xs.map .p)
  | .p (.tuple xs) => some (xs.map .p)
  | .p (.str z) => some (sgnL z)
  | .mix xs => some xs
  | _ => none
def itA (f : Ev → M D) : Ev → M (List D) := fun μ => bnd (f μ) fun d => match seqD d with
  | some xs => ret xs
  | none => bad
theorem is_any (he : ES X W e fe) : IS X W tg e (itA fe) := pi_imp (pi_walk he) fun σ H Q ⟨μ, m, h, S, V, hp⟩ => ⟨μ, m, h, S, V, Post.bnd hp fun d h1 m1 H1 v _ S1 X1 r1 hp1 => by
  cases d with
  | p x =>
    cases x with
    | list xs =>
      simp only [Rep, RepP] at r1
      obtain ⟨a, vs, rfl, f, r⟩ := r1
      exact .inl ⟨a, vs, rfl, f.sq, Post.ret hp1 S1 (walks_list f (repA_map r))⟩
    | tuple xs =>
      simp only [Rep, RepP] at r1
      obtain ⟨a, vs, rfl, f, r⟩ := r1
      exact .inr (.inl ⟨a, vs, rfl, f.sq, Post.ret hp1 S1 (walks_tup f (repA_map r))⟩)
    | str z =>
      simp only [Rep, RepP] at r1
      exact .inr (.inr ⟨z, r1, Post.ret hp1 S1 (walks_str _)⟩)
    | _ => exact hp1.elim
  | mix xs =>
    simp only [Rep] at r1
    obtain ⟨a, vs, rfl, f, r⟩ := r1
    exact .inr (.inl ⟨a, vs, rfl, f.sq, Post.ret hp1 S1 (walks_tup f r)⟩)
  | _ => exact hp1.elim⟩
end

/-! ### into names -/
section
variable {prog : Program} {w : World} {A : Around} {E : Value → Shared → Prop} {s : Shared} {env : Env} {elts : List Expr} {k : Nat} {pos : Pos}
theorem into_list {l : Addr} {items : Array Value} {n : Nat} {Q : Unit → Shared → Prop} (hh : A.handled = none) (hl : s.heap.IsList l items) (hn : (assignEach elts env).length = n) (hz : n = items.size) (hs : (assignEach elts env).findIdx? (·.1) = none)
    (go : ∀ h', Heap.ExtBut s.heap.objs.size s.heap h' → wpAny (model prog w) A (assignInOrder ((assignEach elts env).map (·.2)) items.toList) Q E { s with heap := h' }) : wpAny (model prog w) A (assign (.Tuple elts k pos) env (.ref l)) Q E s := by
  subst hz
  rw [PyProof.Rows.assign_Tuple, show unpack (.ref l) (assignEach elts env) = (do assignInOrder ((assignEach elts env).map (·.2)) (← holding [.ref l] (unpackItems (.ref l) items.size none))) by unfold unpack; rw [hn, hs]]
  exact wpAny_bind (wpAny_standAt (wpAny_bind (wpAny_holding (PySem.W.kun_itemsOf hh hl go))))
/-- the rest of a walk that has begun, taken into a new list -/
theorem rest_of {it ax : Addr} {items : Array Value} {i : Nat} {T : String} {St : Nat → Heap → Prop} {Q : List Value → Shared → Prop} {first : List Value} (hT : T = "str_ascii_iterator" ∨ T = "str_iterator" ∨ T = "list_iterator" ∨ T = "tuple_iterator")
    (Wk : Walks prog w A.in1 it [it, ax] [it] items.size (fun j v => items[j]? = some v) St) (hty : ∀ j (u : Shared), St j u.heap → u.TypeIs (.ref it) T) (hi : i ≤ items.size) (st : St i s.heap) (h1 : it < s.heap.objs.size) (h2 : ax < s.heap.objs.size) (hz : items.size ≤ sizeLine) (hf : first = items.toList.take i)
    (hQ : ∀ (h' : Heap) (tk : Nat), (∀ b o, b ≠ it → s.heap.get? b = some o → h'.get? b = some o) → Q (first ++ [.ref h'.objs.size]) { s with heap := h'.push { cls := .type "list", data := .seq (items.toList.drop i).toArray }, toks := tk }) :
    wpAny (model prog w) A (do
      let rest ← holding first (collect (.ref it))
      let after := i + 1 - 1 - i
      if rest.length < after then
        rule "unpack.star.too-few"
        raiseError "ValueError" s!"not enough values to unpack (expected at least {i + 1 - 1}, got {i + rest.length})"
      let mid := rest.length - after
      return first ++ [← newList (rest.take mid)] ++ rest.drop mid) Q E s := by
  refine wpAny_bind (wpAny_holding (PySem.W.kun_collect hT Wk hty hi st h1 h2 (fun h' tk hk => ?_) hz))
  have e0 : i + 1 - 1 - i = 0 := by omega
  simp only [e0, Nat.not_lt_zero, if_false, Nat.sub_zero, List.take_length, List.drop_length, List.append_nil]
  refine wpAny_bind (wpAny_newList (wpAny_pure (hQ h' tk hk)) ?_)
  rw [List.length_drop, Array.length_toList]
  omega
theorem star_tuple {t : Addr} {items : Array Value} {i : Nat} {Q : List Value → Shared → Prop} (ht : IsTup s.heap t items) (hh : A.handled = none) (hi : i ≤ items.size) (hz : items.size ≤ 16384)
    (hQ : ∀ (h' : Heap) (tk : Nat), (∀ b o, s.heap.get? b = some o → h'.get? b = some o) → Q (items.toList.take i ++ [.ref h'.objs.size]) { s with heap := h'.push { cls := .type "list", data := .seq (items.toList.drop i).toArray }, toks := tk }) :
    wpAny (model prog w) A (unpackItems (.ref t) (i + 1) (some i)) Q E s := by
  have hlt : t < s.heap.objs.size := by obtain ⟨o, ho, _⟩ := ht; exact Heap.lt_size ho
  have hne : t ≠ s.heap.objs.size := Nat.ne_of_lt hlt
  unfold unpackItems notIterableAtAll
  refine wpAny_bind (wpAny_bind (wpAny_specialOf ht.typeIs slot_tuple_iter.lookup (wpAny_pure ?_)))
  simp only [Bool.false_eq_true, if_false]
  refine wpAny_bind (wpAny_holding (iter_tuple ht (wpAny_bind (wpAny_holding (draw_tuple hne i 0 _ _ ⟨_, Heap.get?_push_size _ rfl, rfl, rfl⟩ (ht.push _) (by omega) fun h1 hit hs => ?_)))))
  have ht1 : IsTup h1 t items := (ht.push _).extBut hs.extBut hne
  rw [Nat.zero_add] at hit
  have hit' := hit
  obtain ⟨oi, hoi, _⟩ := hit'
  have ht' := ht1
  obtain ⟨ol, hol, _⟩ := ht'
  have hfl : (items.toList.take i).length = i := by rw [List.length_take, Array.length_toList]; omega
  rw [List.drop_zero, hfl, if_neg (Nat.lt_irrefl i)]
  refine rest_of (s := { s with heap := h1 }) (.inr (.inr (.inr rfl))) (Walks.tuple (A := A.in1) hh s.heap.objs.size t hne items) (fun j u st => st.1.typeIs) hi ⟨hit, ht1⟩ (Heap.lt_size hoi) (Heap.lt_size hol) (by rw [sizeLine_eq]; omega) rfl fun h2 tk hk => ?_
  have hall : ∀ b o, s.heap.get? b = some o → h2.get? b = some o := fun b o e => hk b o (Nat.ne_of_lt (Heap.lt_size e)) (hs.extBut b o (Nat.ne_of_lt (Heap.lt_size e)) (Heap.get?_push_of_some _ e))
  exact hQ h2 tk hall
theorem star_list {t : Addr} {items : Array Value} {i : Nat} {Q : List Value → Shared → Prop} (ht : s.heap.IsList t items) (hh : A.handled = none) (hi : i ≤ items.size) (hz : items.size ≤ 16384)
    (hQ : ∀ (h' : Heap) (tk : Nat), (∀ b o, s.heap.get? b = some o → h'.get? b = some o) → Q (items.toList.take i ++ [.ref h'.objs.size]) { s with heap := h'.push { cls := .type "list", data := .seq (items.toList.drop i).toArray }, toks := tk }) :
    wpAny (model prog w) A (unpackItems (.ref t) (i + 1) (some i)) Q E s := by
  have hlt : t < s.heap.objs.size := by obtain ⟨o, ho, _⟩ := ht; exact Heap.lt_size ho
  have hne : t ≠ s.heap.objs.size := Nat.ne_of_lt hlt
  unfold unpackItems notIterableAtAll
  refine wpAny_bind (wpAny_bind (wpAny_specialOf ht.typeIs slot_list_iter.lookup (wpAny_pure ?_)))
  simp only [Bool.false_eq_true, if_false]
  refine wpAny_bind (wpAny_holding (wpAny_pyIter_list ht (wpAny_bind (wpAny_holding (PySem.W.kun_draw hne i 0 _ _ ⟨_, Heap.get?_push_size _ rfl, rfl, rfl⟩ (ht.push _) (by omega) fun h1 hit hs => ?_)))))
  have ht1 : h1.IsList t items := (ht.push _).extBut hs.extBut hne
  rw [Nat.zero_add] at hit
  have hit' := hit
  obtain ⟨oi, hoi, _⟩ := hit'
  have ht' := ht1
  obtain ⟨ol, hol, _⟩ := ht'
  have hfl : (items.toList.take i).length = i := by rw [List.length_take, Array.length_toList]; omega
  rw [List.drop_zero, hfl, if_neg (Nat.lt_irrefl i)]
  refine rest_of (s := { s with heap := h1 }) (.inr (.inr (.inl rfl))) (Walks.list (A := A.in1) hh s.heap.objs.size t hne items) (fun j u st => st.1.typeIs) hi ⟨hit, ht1⟩ (Heap.lt_size hoi) (Heap.lt_size hol) (by rw [sizeLine_eq]; omega) rfl fun h2 tk hk => ?_
  exact hQ h2 tk fun b o e => hk b o (Nat.ne_of_lt (Heap.lt_size e)) (hs.extBut b o (Nat.ne_of_lt (Heap.lt_size e)) (Heap.get?_push_of_some _ e))
theorem into_star {v : Value} {i : Nat} {Q : Unit → Shared → Prop} (hn : (assignEach elts env).length = i + 1) (hs : (assignEach elts env).findIdx? (·.1) = some i)
    (go : wpAny (model prog w) A (unpackItems v (i + 1) (some i)) (fun vs s1 => wpAny (model prog w) A (assignInOrder ((assignEach elts env).map (·.2)) vs) Q E s1) E s) : wpAny (model prog w) A (assign (.Tuple elts k pos) env v) Q E s := by
  rw [PyProof.Rows.assign_Tuple, show unpack v (assignEach elts env) = (do assignInOrder ((assignEach elts env).map (·.2)) (← holding [v] (unpackItems v (i + 1) (some i)))) by unfold unpack; rw [hn, hs]]
  exact wpAny_bind (wpAny_standAt (wpAny_bind (wpAny_holding go)))
end
section
variable {X : Cx} {T : Tx} {W : XK} {pos : Pos} {es : List Expr} {kk n : Nat} {t : TGs}
def gSeq (K : PySem.W.Frag) (n : Nat) (t : TGs) : TG := fun v σ H Q => ∃ a xs, v = .ref a ∧ (SqT K H a xs ∨ SqL K H a xs) ∧ xs.length = n ∧ t xs σ H Q
theorem pg_seq (hc : X.calm = true) (h : PGs X es t) (hn : (assignEach es X.env).length = n := by rfl) (hst : (assignEach es X.env).findIdx? (·.1) = none := by rfl) : PG X (.Tuple es kk pos) (gSeq X.K n t) := by
  refine ⟨fun pins s σ H v u Q I r hw => ?_⟩
  obtain ⟨a, xs, rfl, hq | hq, hl, hw⟩ := hw
  · exact (pg_tup hc h hn hst).run pins s σ H _ u Q I r ⟨a, xs, rfl, hq, hl, hw⟩
  · cases r
    obtain ⟨its, rv, pl, hz⟩ := I.list hq
    refine into_list (I.ok.hd hc) pl.isList hn (by simp [← hl, rv.length]) hst fun h' hx => ?_
    exact h.run pins _ σ H xs its Q (I.kept (t' := s.toks) fun b o e => hx b o (Nat.ne_of_lt (Heap.lt_size e)) e) rv hw
/-- names, then a starred one -/
theorem pgs_star {e : Expr} {p : Pos} {g : TG} (h1 : PG X e g) (hs : (assignEach [.Starred e p] X.env).map (·.2) = [assign e X.env] := by rfl) : PGs X [.Starred e p] (gCons g gNil) := by
  refine ⟨fun pins s σ H vs us Q I r h => ?_⟩
  obtain ⟨v, vr, rfl, h⟩ := h
  cases r with
  | cons r rr =>
    rw [hs]
    refine assignInOrder_cons (thn (h1.run pins s σ H _ _ _ I r h) fun _ s1 ⟨σ1, H1, I1, e, q1⟩ => ?_)
    subst e
    cases rr
    exact assignInOrder_nil ⟨σ1, H1, I1, q1⟩
def gStar (K : PySem.W.Frag) (i : Nat) (t : TGs) : TG := fun v σ H Q => ∃ a xs, v = .ref a ∧ (SqT K H a xs ∨ SqL K H a xs) ∧ i ≤ xs.length ∧ xs.length ≤ 16384 ∧ ∀ p, H p = none → t (xs.take i ++ [.ref p]) σ (upd H p (.lst (xs.drop i))) Q
theorem vals_take {xs : List V} {us : List Value} (r : Vals xs us) : ∀ i : Nat, Vals (xs.take i) (us.take i) := by
  induction r with
  | nil => intro i; simp only [List.take_nil]; exact .nil
  | cons a b ih => intro i; cases i with
    | zero => exact .nil
    | succ i => exact .cons a (ih i)
theorem vals_drop {xs : List V} {us : List Value} (r : Vals xs us) : ∀ i : Nat, Vals (xs.drop i) (us.drop i) := by
  induction r with
  | nil => intro i; simp only [List.drop_nil]; exact .nil
  | cons a b ih => intro i; cases i with
    | zero => exact .cons a b
    | succ i => exact ih i
theorem vals_snoc {xs : List V} {us : List Value} {x : V} {u : Value} (r : Vals xs us) (h : RelV x u) : Vals (xs ++ [x]) (us ++ [u]) := by
  induction r with
  | nil => exact .cons h .nil
  | cons a b ih => exact .cons a ih
theorem pg_star {i : Nat} (hc : X.calm = true) (h : PGs X es t) (hn : (assignEach es X.env).length = i + 1 := by rfl) (hst : (assignEach es X.env).findIdx? (·.1) = some i := by rfl) : PG X (.Tuple es kk pos) (gStar X.K i t) := by
  refine ⟨fun pins s σ H v u Q I r hw => ?_⟩
  obtain ⟨a, xs, rfl, hq, hl, hz, hw⟩ := hw
  cases r
  refine into_star hn hst ?_
  have last : ∀ (its : List Value) (h' : Heap) (tk : Nat), Vals xs its → (∀ b o, s.heap.get? b = some o → h'.get? b = some o) → wpAny (model X.prog X.w) X.A (assignInOrder ((assignEach es X.env).map (·.2)) (its.take i ++ [.ref h'.objs.size])) (fun _ s' => ∃ σ' H', Inv X pins σ' H' s' ∧ Q σ' H') X.xe { s with heap := h'.push { cls := .type "list", data := .seq (its.drop i).toArray }, toks := tk } := fun its h' tk rv hk => by
    have I1 : Inv X pins σ H { s with heap := h', toks := tk } := I.kept hk
    have hf : H h'.objs.size = none := I1.hok.fresh (Nat.le_refl _)
    have hz2 : (xs.drop i).length ≤ sizeLine := by rw [List.length_drop, sizeLine_eq]; omega
    have I2 := I1.laid (t' := tk) (a := h'.objs.size) (o := .lst (xs.drop i)) (h' := h'.push { cls := .type "list", data := .seq (its.drop i).toArray }) (fun b u e => Heap.get?_push_of_some _ e) (Nat.le_refl _) ⟨hz2, its.drop i, 0, vals_drop rv i, Heap.get?_push_size _ rfl⟩
    exact h.run pins _ σ _ _ _ Q I2 (vals_snoc (x := .ref h'.objs.size) (vals_take rv i) (by exact rfl)) (hw _ hf)
  rcases hq with hq | hq
  · obtain ⟨its, rv, pl, _⟩ := I.tuple hq
    have := star_tuple (prog := X.prog) (w := X.w) (A := X.A) (E := X.xe) (i := i) (Q := fun vs s1 => wpAny (model X.prog X.w) X.A (assignInOrder ((assignEach es X.env).map (·.2)) vs) (fun _ s' => ∃ σ' H', Inv X pins σ' H' s' ∧ Q σ' H') X.xe s1) pl (I.ok.hd hc) (by simp [← rv.length]; omega) (by simp [← rv.length]; omega) fun h' tk hk => last its h' tk rv hk
    exact this
  · obtain ⟨its, rv, pl, _⟩ := I.list hq
    have := star_list (prog := X.prog) (w := X.w) (A := X.A) (E := X.xe) (i := i) (Q := fun vs s1 => wpAny (model X.prog X.w) X.A (assignInOrder ((assignEach es X.env).map (·.2)) vs) (fun _ s' => ∃ σ' H', Inv X pins σ' H' s' ∧ Q σ' H') X.xe s1) pl.isList (I.ok.hd hc) (by simp [← rv.length]; omega) (by simp [← rv.length]; omega) fun h' tk hk => last its h' tk rv hk
    exact this
/-- the items of a list or a tuple, now -/
def itemsS (h : Hm) : D → Option (List D)
  | .p (.list xs) => some (xs.map .p)
  | .p (.tuple xs) => some (xs.map .p)
  | .mix xs => some xs
  | .cell n => match h[n]? with
    | some (.lst xs) => some xs
    | _ => none
  | _ => none
theorem itemsS_rep {w : World} {K : PySem.W.Frag} {mg : Str → Option Value} {m : Mm} {H : Hp} {h : Hm} {d : D} {v : V} {xs : List D} (S : Sim w K mg m H h) (r : Rep w K mg m H d v) (e : itemsS h d = some xs) : ∃ a vs, v = .ref a ∧ (SqT K H a vs ∨ SqL K H a vs) ∧ RepA w K mg m H xs vs := by
  cases d with
  | p x =>
    cases x with
    | tuple ys =>
      simp only [itemsS, Option.some.injEq] at e
      subst e
      simp only [Rep, RepP] at r
      obtain ⟨a, vs, e, f, r⟩ := r
      exact ⟨a, vs, e, .inl f.sq, repA_map r⟩
    | list ys =>
      simp only [itemsS, Option.some.injEq] at e
      subst e
      simp only [Rep, RepP] at r
      obtain ⟨a, vs, e, f, r⟩ := r
      exact ⟨a, vs, e, .inr f.sq, repA_map r⟩
    | _ => cases e
  | mix ys =>
    simp only [itemsS, Option.some.injEq] at e
    subst e
    simp only [Rep] at r
    obtain ⟨a, vs, e, f, r⟩ := r
    exact ⟨a, vs, e, .inl f.sq, r⟩
  | cell n =>
    simp only [Rep] at r
    obtain ⟨a, rfl, ha⟩ := r
    simp only [itemsS] at e
    cases q : h[n]? with
    | none => rw [q] at e; cases e
    | some c =>
      rw [q] at e
      cases c with
      | lst ys =>
        simp only [Option.some.injEq] at e
        subst e
        obtain ⟨vs, hv, rv⟩ := S.at_ n a _ ha q
        exact ⟨a, vs, rfl, .inr (.inl (.inl hv)), rv⟩
      | _ => cases e
  | _ => cases e
def gUn (n : Nat) (k : List D → Ev → Hm → Option Ev) : D → Ev → Hm → Option Ev := fun d μ h => match itemsS h d with
  | some xs => if xs.length = n then k xs μ h else none
  | none => none
theorem gs_seq {S : List Nat} {k : List D → Ev → Hm → Option Ev} (hc : X.calm = true) (h : GsS X T es S k) (hK : T.K = X.K := by rfl) (hn : (assignEach es X.env).length = n := by rfl) (hst : (assignEach es X.env).findIdx? (·.1) = none := by rfl) : GS X T (.Tuple es kk pos) S (gUn n k) :=
  pg_imp (pg_seq hc h hn hst) fun v σ H Q ⟨μ, m, h, d, μ', S, E, r, e, q⟩ => by
    unfold gUn at e
    cases q1 : itemsS h d with
    | none => rw [q1] at e; cases e
    | some xs =>
      rw [q1] at e
      simp only at e
      by_cases hl : xs.length = n
      · rw [if_pos hl] at e
        obtain ⟨a, vs, rfl, f, rv⟩ := itemsS_rep S r q1
        exact ⟨a, vs, rfl, by rw [← hK]; exact f, by rw [rv.length]; exact hl, μ, m, h, xs, μ', S, E, rv, e, q⟩
      · rw [if_neg hl] at e; cases e
theorem gss_star {e : Expr} {p : Pos} {S1 : List Nat} {g : D → Ev → Hm → Option Ev} (h1 : GS X T e S1 g) (hs : (assignEach [.Starred e p] X.env).map (·.2) = [assign e X.env] := by rfl) : GsS X T [.Starred e p] S1 (gCn g gNl) :=
  pgs_imp (pgs_star h1 hs) fun vs σ H Q ⟨μ, m, h, ds, μ', S, E, r, e, q⟩ => by
    cases ds with
    | nil => cases e
    | cons d ds =>
      simp only [RepA] at r
      obtain ⟨v, r', rfl, ra, rb⟩ := r
      simp only [gCn, Option.bind_eq_some_iff] at e
      obtain ⟨μ1, e1, e2⟩ := e
      cases ds with
      | cons _ _ => cases e2
      | nil =>
        simp only [gNl, Option.some.injEq] at e2
        subst e2
        simp only [RepA] at rb
        subst rb
        exact ⟨v, [], rfl, μ, m, h, d, μ1, S, E, ra, e1, fun σ1 E1 A1 => ⟨rfl, q σ1 E1 A1⟩⟩
theorem RepA.take {w : World} {K : PySem.W.Frag} {mg : Str → Option Value} {m : Mm} {H : Hp} : ∀ {xs : List D} {vs : List V} (n : Nat), RepA w K mg m H xs vs → RepA w K mg m H (xs.take n) (vs.take n)
  | [], vs, n, r => by simp only [RepA] at r; subst r; simp [RepA]
  | x :: xs, vs, 0, r => by simp [RepA]
  | x :: xs, vs, n + 1, r => by
    simp only [RepA] at r
    obtain ⟨v, r', rfl, h1, h2⟩ := r
    simp only [List.take_succ_cons, RepA]
    exact ⟨v, _, rfl, h1, RepA.take n h2⟩
theorem RepA.drop {w : World} {K : PySem.W.Frag} {mg : Str → Option Value} {m : Mm} {H : Hp} : ∀ {xs : List D} {vs : List V} (n : Nat), RepA w K mg m H xs vs → RepA w K mg m H (xs.drop n) (vs.drop n)
  | [], vs, n, r => by simp only [RepA] at r; subst r; simp [RepA]
  | x :: xs, vs, 0, r => by simpa using r
  | x :: xs, vs, n + 1, r => by
    simp only [RepA] at r
    obtain ⟨v, r', rfl, h1, h2⟩ := r
    simp only [List.drop_succ_cons]
    exact RepA.drop n h2
/-- a, b, *c = .. : the rest is data, not to be changed -/
def starD (i : Nat) (k : List D → Ev → Hm → Option Ev) (d : D) (μ : Ev) (h : Hm) : Option Ev := match itemsS h d with
  | some xs => if i ≤ xs.length ∧ xs.length ≤ 16384 then (match plain (xs.drop i) with
    | some ys => k (xs.take i ++ [.p (.list ys)]) μ h
    | none => none) else none
  | none => none
theorem ss_star {e : Expr} {fe : Ev → M D} {S : List Nat} {i : Nat} {k : List D → Ev → Hm → Option Ev} (he : ES X W e fe) (hc : X.calm = true) (hg : GsS X (tx X W) es S k) (hn : (assignEach es X.env).length = i + 1 := by rfl) (hst : (assignEach es X.env).findIdx? (·.1) = some i := by rfl)
    (hw : swappedStores [.Tuple es kk pos] e X.env = pure none := by rfl)
    (h1 : (assignEach [.Tuple es kk pos] X.env).map (·.2) = [assign (.Tuple es kk pos) X.env] := by rfl) {pos1 : Pos} (hs : swapsWithSole [.Tuple es kk pos] e pos1.line X.env = pure false := by rfl) : SS X W (.Assign [.Tuple es kk pos] e pos1) (sAsg (starD i k) fe) :=
  ps_imp (ps_asg he (pg_star hc hg hn hst) hs hw h1) fun E σ H ⟨μ, m, h, Sm, V, hp⟩ => by
    refine ⟨μ, m, h, Sm, V, PostS.bnd hp fun d h' m' H' v _ S' X' r hp' => ?_⟩
    cases q : starD i k d μ h' with
    | none => rw [q] at hp'; exact hp'.elim
    | some μ' =>
      rw [q] at hp'
      unfold starD at q
      cases q1 : itemsS h' d with
      | none => rw [q1] at q; cases q
      | some xs =>
        rw [q1] at q
        simp only at q
        by_cases hl : i ≤ xs.length ∧ xs.length ≤ 16384
        · rw [if_pos hl] at q
          obtain ⟨a, vs, rfl, f, rv⟩ := itemsS_rep S' r q1
          cases q2 : plain (xs.drop i) with
          | none => rw [q2] at q; cases q
          | some ys =>
            rw [q2] at q
            refine ⟨a, vs, rfl, f, by rw [rv.length]; exact hl.1, by rw [rv.length]; exact hl.2, fun p hpn => ?_⟩
            have X2 := Ext.new (o := .lst (vs.drop i)) S' hpn
            have S2 := Sim.new (o := .lst (vs.drop i)) S' hpn
            refine ⟨μ, m', h', _, μ', S2, (V.mono X').mono X2, ?_, q, fun σ' V' _ => hp' m' _ σ' S2 X2 V'⟩
            refine RepA.append ((rv.take i).mono X2) ?_
            simp only [RepA]
            refine ⟨.ref p, [], rfl, ?_, rfl⟩
            simp only [Rep, RepP]
            exact ⟨p, vs.drop i, rfl, .inl ⟨.inl upd_same, S'.notin hpn⟩, plain_rep q2 ((rv.drop i).mono X2)⟩
        · rw [if_neg hl] at q; cases q
end
end MP
/-! MP9: t[::step], a dict of the module, a def that calls itself. -/
namespace MP
open PySem PySem.Spec PyProof.Rows L2
/-! ### a tuple forward or backward -/
section
variable {prog : Program} {w : World} {A : Around} {E : Value → Shared → Prop} {s : Shared}
theorem step_part {sl : Addr} {st : Int} {u : Tok} {n : Nat} {Q : Int × Int × Nat → Shared → Prop} (hs : s.heap.IsSliceOf sl .none .none (.int st u)) (hst : st = 1 ∨ st = -1)
    (h : Q ((if st = 1 then 0 else (n : Int) - 1), st, n) s) : wpAny (model prog w) A (Builtin.Slice.sliceApplied (.ref sl) (pure (n : Int))) Q E s := by
  obtain ⟨os, h1, h2, h3⟩ := id hs
  unfold Builtin.Slice.sliceApplied Builtin.Slice.sliceFields
  refine wpAny_bind (wpAny_bind (wpAny_field h1 h3 (x := .none) rfl (wpAny_bind (wpAny_field h1 h3 (x := .none) rfl (wpAny_bind (wpAny_field h1 h3 (x := .int st u) rfl (wpAny_pure (wpAny_bind (slicePart_int ?_)))))))))
  show wpAny _ _ (if (st == 0) = true then _ else _) _ _ s
  have ne : ¬ ((st == 0) = true) := by rcases hst with rfl | rfl <;> decide
  rw [if_neg ne]
  refine wpAny_bind (slicePart_none (wpAny_bind (slicePart_none (wpAny_bind (wpAny_pure ?_)))))
  have e : (match Builtin.Slice.sliceAdjust none none st (n : Int) with | (lo, hi) => (lo, st, Builtin.Slice.slicePlaces lo hi st)) = ((if st = 1 then 0 else (n : Int) - 1), st, n) := by
    rcases hst with rfl | rfl
    · simp only [Builtin.Slice.sliceAdjust, Builtin.Slice.slicePlaces]
      simp
      split <;> omega
    · simp only [Builtin.Slice.sliceAdjust, Builtin.Slice.slicePlaces]
      simp
      split <;> omega
  have h' := h
  rw [← e] at h'
  exact wpAny_pure h'
theorem pick_rev (xs : Array Value) : ((List.range xs.size).filterMap fun (k : Nat) => xs[((xs.size : Int) - 1 + (k : Int) * (-1)).toNat]?).toArray = xs.toList.reverse.toArray := by
  congr 1
  have e : ∀ k ∈ List.range xs.size, (fun (k : Nat) => xs[((xs.size : Int) - 1 + (k : Int) * (-1)).toNat]?) k = (some ∘ fun k => xs.toList.reverse.getD k .none) k := fun k hk => by
    have hk : k < xs.size := List.mem_range.mp hk
    have : ((xs.size : Int) - 1 + (k : Int) * (-1)).toNat = xs.size - 1 - k := by omega
    simp only [this, Function.comp]
    rw [List.getD_eq_getElem?_getD, List.getElem?_reverse (by simpa using hk), Array.length_toList, Array.getElem?_toList, Array.getElem?_eq_getElem (by omega)]
    rfl
  have e2 : (List.range xs.size).filterMap (fun (k : Nat) => xs[((xs.size : Int) - 1 + (k : Int) * (-1)).toNat]?) = (List.range xs.size).map fun k => xs.toList.reverse.getD k .none := by
    have h1 := List.map_congr_left e
    have h2 := congrArg (List.filterMap id) h1
    rw [List.filterMap_map, List.filterMap_map] at h2
    have h3 : (id ∘ (some ∘ fun k => xs.toList.reverse.getD k Value.none)) = (some ∘ fun k => xs.toList.reverse.getD k Value.none) := rfl
    rw [h3, List.filterMap_eq_map] at h2
    exact h2
  rw [e2]
  apply List.ext_getElem?
  intro i
  rw [List.getElem?_map]
  by_cases hi : i < xs.size
  · rw [List.getElem?_range hi]
    simp only [Option.map_some, List.getD_eq_getElem?_getD]
    rw [List.getElem?_eq_getElem (by simpa using hi)]
    rfl
  · rw [List.getElem?_eq_none (by simpa using Nat.le_of_not_lt hi), List.getElem?_eq_none (by simpa using Nat.le_of_not_lt hi)]
    rfl
theorem item_step {t sl : Addr} {items : Array Value} {st : Int} {u : Tok} {Q : Value → Shared → Prop} (ht : IsTup s.heap t items) (hs : s.heap.IsSliceOf sl .none .none (.int st u)) (hst : st = 1 ∨ st = -1) (hz : items.size ≤ sizeLine)
    (q1 : st = 1 → Q (.ref t) s) (q2 : st = -1 → Q (.ref s.heap.objs.size) { s with heap := s.heap.push { cls := .type "tuple", data := .seq items.toList.reverse.toArray } }) : wpAny (model prog w) A (getItem (.ref t) (.ref sl)) Q E s := by
  obtain ⟨os, h1, h2, h3⟩ := id hs
  have hT : s.TypeIs (.ref sl) "slice" := ⟨os, h1, h2⟩
  unfold getItem
  try with_reducible refine wpAny_holding ?_
  first | refine wpAny_bind (wpAny_pure ?_) | skip
  refine wpAny_bind (wpAny_sequenceKey ht.typeIs (by decide) (wpAny_bind (wpAny_callSpecial?_slot (name := Str.ofString "__getitem__") ht.typeIs slot_tuple_getitem (wpAny_call_entry slot_tuple_getitem ht.typeIs entry_tuple_getitem ?_ (args_tuple_getitem _ _)))))
  show wpAny _ _ (Builtin.Tuple.tupleItemsOf (.ref t) >>= _) _ _ s
  refine wpAny_bind (tupleItemsOf_ ht (wpAny_bind (wpAny_typeOf hT ?_)))
  rw [if_pos (by decide)]
  refine wpAny_bind (step_part hs hst ?_)
  rcases hst with rfl | rfl
  · show wpAny _ _ (if ((0 : Int) == 0 && (1 : Int) == 1 && items.size == items.size) = true then _ else _) _ _ s
    rw [if_pos (by simp)]
    refine wpAny_bind ?_
    show wpAny _ _ (typeOf (.ref t) >>= fun T => pure (T == .type "tuple")) _ _ s
    refine wpAny_bind (wpAny_typeOf ht.typeIs (wpAny_pure ?_))
    first
      | rw [if_pos (by decide)]
      | simp only [beq_self_eq_true, if_true]
    first
      | exact wpAny_bind (wpAny_rule (wpAny_pure ⟨_, rfl, wpAny_pure (q1 rfl)⟩))
      | exact wpAny_bind (wpAny_rule (wpAny_bind (wpAny_pure (wpAny_pure ⟨_, rfl, wpAny_pure (q1 rfl)⟩))))
  · show wpAny _ _ (if (((items.size : Int) - 1) == 0 && (-1 : Int) == 1 && items.size == items.size) = true then _ else _) _ _ s
    rw [if_neg (by simp), show (if (-1 : Int) = 1 then (0 : Int) else (items.size : Int) - 1) = (items.size : Int) - 1 from if_neg (by decide), pick_rev]
    have hz2 : sizeOk (.seq items.toList.reverse.toArray) := by
      show items.toList.reverse.toArray.size ≤ sizeLine
      simpa using hz
    first
      | exact wpAny_bind (m := Builtin.Tuple.tupleExact _) (wpAny_newObj_type (wpAny_pure ⟨_, rfl, wpAny_pure (q2 rfl)⟩) hz2)
      | exact wpAny_bind (m := Builtin.Tuple.tupleExact _) (wpAny_newObj_type (wpAny_bind (wpAny_pure (wpAny_pure ⟨_, rfl, wpAny_pure (q2 rfl)⟩))) hz2)
      | exact wpAny_bind (wpAny_bind (m := Builtin.Tuple.tupleExact _) (wpAny_newObj_type (wpAny_pure (wpAny_pure ⟨_, rfl, wpAny_pure (q2 rfl)⟩)) hz2))
      | exact wpAny_bind (wpAny_bind (m := Builtin.Tuple.tupleExact _) (wpAny_newObj_type (wpAny_pure ⟨_, rfl, wpAny_pure (q2 rfl)⟩) hz2))
end
section
variable {X : Cx} {W : XK} {e st : Expr} {te ts : TE} {fe fs : Ev → M D} {p3 pos : Pos}
def tStep (K : PySem.W.Frag) (te ts : TE) : TE := fun σ H Q => te σ H fun x H1 => ts σ H1 fun y H2 => ∃ a xs i, x = .ref a ∧ y = .int i ∧ SqT K H2 a xs ∧ ((i = 1 ∧ Q (.ref a) H2) ∨ (i = -1 ∧ ∀ p, H2 p = none → Q (.ref p) (upd H2 p (.tup xs.reverse))))
theorem pe_step (he : PE X e te) (hs : PE X st ts) : PE X (.Subscript e (.Slice none none (some st) p3) pos) (tStep X.K te ts) := by
  refine ⟨fun pins s σ H Q I h => Subscript_ (thn (he.run pins s σ H _ I h) fun v s1 ⟨x, H1, I1, r1, q1⟩ => ?_)⟩
  refine wpAny_Slice (thn (po_none.run pins s1 σ H1 (fun o H2 => o = none ∧ H2 = H1) I1 ⟨rfl, rfl⟩) fun vl s2 ⟨l, H2, I2, pl, el, e2⟩ => ?_)
  subst el e2
  refine thn (po_none.run pins s2 σ H2 (fun o H3 => o = none ∧ H3 = H2) I2 ⟨rfl, rfl⟩) fun vu s3 ⟨u, H3, I3, pu, eu, e3⟩ => ?_
  subst eu e3
  rw [evalPart_some]
  refine thn (hs.run pins s3 σ H3 _ I3 q1) fun vs s4 ⟨y, H4, I4, ry, a, xs, i, ex, ey, hx, q⟩ => ?_
  subst ex ey
  cases r1
  obtain ⟨t, rfl⟩ := ry
  cases pl
  cases pu
  have I5 : Inv X pins σ H4 { s4 with heap := s4.heap.push { cls := .type "slice", data := .fields #[.none, .none, .int i t] } } := I4.kept (t' := s4.toks) fun b ob q => Heap.get?_push_of_some _ q
  obtain ⟨its, r, ht, hz⟩ := I5.tuple hx
  have hlen := r.length
  show wpAny (model X.prog X.w) X.A (subscriptTail e (.Slice none none (some st) p3) (.ref a) (.ref s4.heap.objs.size)) (EP X pins σ Q) X.xe { s4 with heap := s4.heap.push { cls := .type "slice", data := .fields #[.none, .none, .int i t] } }
  refine tail_any (ops := [.ref a, .ref s4.heap.objs.size]) ht.typeIs slot_tuple_getitem.lookup ?_ (by with_unfolding_all rfl)
  refine item_step ht (Heap.IsSliceOf.new _ .none .none (.int i t)) (by rcases q with ⟨z, _⟩ | ⟨z, _⟩ <;> simp [z]) (by rw [List.size_toArray]; omega) (fun e1 => ?_) fun e1 => ?_
  · rcases q with ⟨_, q⟩ | ⟨z, _⟩
    · exact ⟨.ref a, H4, I5, rfl, q⟩
    · omega
  · rcases q with ⟨z, _⟩ | ⟨_, q⟩
    · omega
    · refine ⟨.ref _, _, I5.laid (t' := s4.toks) (o := .tup xs.reverse) (fun b ob q => Heap.get?_push_of_some _ q) (Nat.le_refl _) ?_, rfl, q _ (I5.hok.fresh (Nat.le_refl _))⟩
      exact ⟨by rw [List.length_reverse]; exact hz, _, r.reverse, IsTup.new _ _⟩
/-- t[::i] -/
def stepD (x i : D) : M D := match x, i with
  | .p (.tuple xs), .p (.int i) => chk (i = 1 ∨ i = -1) (ret (.p (.tuple (if i = 1 then xs else xs.reverse))))
  | _, _ => bad
theorem RepPs.append' {w : World} {K : PySem.W.Frag} {m : Mm} {H : Hp} : ∀ {xs ys : List PyData} {vs us : List V}, RepPs w K m H xs vs → RepPs w K m H ys us → RepPs w K m H (xs ++ ys) (vs ++ us) := fun a b => RepPs.append a b
theorem RepPs.reverse {w : World} {K : PySem.W.Frag} {m : Mm} {H : Hp} : ∀ {xs : List PyData} {vs : List V}, RepPs w K m H xs vs → RepPs w K m H xs.reverse vs.reverse
  | [], vs, h => by simp only [RepPs] at h; subst h; simp [RepPs]
  | x :: xs, vs, h => by
    simp only [RepPs] at h
    obtain ⟨v, r, rfl, h1, h2⟩ := h
    simp only [List.reverse_cons]
    exact RepPs.append (RepPs.reverse h2) (by simp only [RepPs]; exact ⟨v, [], rfl, h1, rfl⟩)
theorem es_step (he : ES X W e fe) (hs : ES X W st fs) : ES X W (.Subscript e (.Slice none none (some st) p3) pos) (bin stepD fe fs) :=
  pe_imp (pe_step he hs) fun σ H Q ⟨μ, m, h, S, V, hp⟩ => ⟨μ, m, h, S, V, Post.bnd hp fun x h1 m1 H1 v _ S1 X1 r1 hp1 => ⟨μ, m1, h1, S1, V.mono X1, Post.bnd hp1 fun y h2 m2 H2 u _ S2 X2 r2 hp2 => by
    unfold stepD at hp2
    split at hp2
    · obtain ⟨hi, hp2⟩ := chk_post hp2
      have r1 := r1.mono X2
      simp only [Rep, RepP] at r1 r2
      obtain ⟨a, vs, rfl, f, r⟩ := r1
      refine ⟨a, vs, _, rfl, r2, f.sq, ?_⟩
      rcases hi with rfl | rfl
      · exact .inl ⟨rfl, hp2 m2 H2 _ S2 Ext.refl (by simp only [Rep, RepP, if_true]; exact ⟨a, vs, rfl, f, r⟩)⟩
      · refine .inr ⟨rfl, fun p hn => hp2 m2 _ _ (S2.new hn) (Ext.new S2 hn) ?_⟩
        rw [if_neg (by decide)]
        simp only [Rep, RepP]
        exact ⟨p, vs.reverse, rfl, .inl ⟨upd_same, S2.notin hn⟩, RepPs.reverse (RepPs.mono (Ext.new S2 hn) r)⟩
    · exact hp2.elim⟩⟩
end

/-! ### a dict of the module with text keys -/
def Ent (w : World) (K : PySem.W.Frag) (mg : Str → Option Value) : List DictEntry → List (Str × D) → Prop
  | [], [] => True
  | e :: r, (z, d) :: q => (∃ t, e.key = .str z t) ∧ (∃ v, RelV v e.val ∧ ∀ m H, Rep w K mg m H d v) ∧ Ent w K mg r q
  | [], _ :: _ => False
  | _ :: _, [] => False
structure KD (K : PySem.W.Frag) (w : World) (mg : Str → Option Value) (x : Str) (kvs : List (Str × D)) : Prop where
  ex : ∃ d es n, mg x = some (.ref d) ∧ KDict K w d es n ∧ Ent w K mg es.toList kvs
theorem Ent.noRef {w : World} {K : PySem.W.Frag} {mg : Str → Option Value} : ∀ {es : List DictEntry} {kvs : List (Str × D)}, Ent w K mg es kvs → es.any (·.refKey) = false
  | [], _, _ => rfl
  | e :: r, [], h => h.elim
  | e :: r, (z, d) :: q, h => by
    obtain ⟨⟨t, e1⟩, _, h⟩ := h
    have ih := Ent.noRef h
    rw [List.any_cons, ih, Bool.or_false]
    unfold DictEntry.refKey
    rw [e1]
theorem Ent.find {w : World} {K : PySem.W.Frag} {mg : Str → Option Value} (y : Str) : ∀ {es : List DictEntry} {kvs : List (Str × D)}, Ent w K mg es kvs → match kvs.lookup y with
    | none => es.find? (·.key.isStr y) = none
    | some d => ∃ e v, es.find? (·.key.isStr y) = some e ∧ RelV v e.val ∧ ∀ m H, Rep w K mg m H d v
  | [], [], _ => rfl
  | e :: r, [], h => h.elim
  | e :: r, (z, d) :: q, h => by
    obtain ⟨⟨t, e1⟩, ⟨v, rv, rp⟩, h⟩ := h
    have ih := Ent.find y h
    by_cases ez : y = z
    · subst ez
      have e2 : e.key.isStr y = true := by rw [e1]; simp [Value.isStr]
      simp only [List.lookup_cons, beq_self_eq_true]
      exact ⟨e, v, by rw [List.find?_cons, e2], rv, rp⟩
    · have e2 : e.key.isStr y = false := by rw [e1]; simp [Value.isStr]; exact fun z => ez z.symm
      have e3 : (y == z) = false := by simpa using ez
      simp only [List.lookup_cons, e3]
      rw [List.find?_cons, e2]
      exact ih
theorem Ent.ns {w : World} {K : PySem.W.Frag} {mg : Str → Option Value} {es : Array DictEntry} {kvs : List (Str × D)} {d : Addr} {n : Nat} (h : Ent w K mg es.toList kvs) (l : K.lookup d = some ⟨.type "dict", none, .dict es n, #[]⟩) (y : Str) : match kvs.lookup y with
    | none => PySem.W.nsIn K d y = some none
    | some c => ∃ u v, PySem.W.nsIn K d y = some (some u) ∧ RelV v u ∧ ∀ m H, Rep w K mg m H c v := by
  have f := h.find y
  have nr := h.noRef
  cases q : kvs.lookup y with
  | none =>
    rw [q] at f
    simp only at f ⊢
    unfold PySem.W.nsIn
    rw [l]
    simp only [f, nr]
    rfl
  | some c =>
    rw [q] at f
    obtain ⟨e, v, f1, f2, f3⟩ := f
    refine ⟨e.val, v, ?_, f2, f3⟩
    unfold PySem.W.nsIn
    rw [l]
    simp only [f1]
def inKD (neg : Bool) (x : Str) (kvs : List (Str × D)) (a b : D) : M D := match a, b with
  | .p (.str z), .glob y => chk (y = x) (ret (.p (.bool (if neg then (kvs.lookup z).isNone else (kvs.lookup z).isSome))))
  | _, _ => bad
def itKD (x : Str) (kvs : List (Str × D)) (a b : D) : M D := match a, b with
  | .glob y, .p (.str z) => chk (y = x) (match kvs.lookup z with
    | some d => ret d
    | none => bad)
  | _, _ => bad
theorem inKD_of {T : Tx} {m : Mm} {H : Hp} {h : Hm} {rel : Mm → Hp → D → V → Prop} {Q : VK} {neg : Bool} {x : Str} {kvs : List (Str × D)} {a b : D} (hp : Post T m H rel (inKD neg x kvs a b h) Q) :
    ∃ z, a = .p (.str z) ∧ b = .glob x ∧ Post T m H rel (ret (.p (.bool (if neg then (kvs.lookup z).isNone else (kvs.lookup z).isSome))) h) Q := by
  cases a with
  | p q =>
    cases q with
    | str z =>
      cases b with
      | glob y =>
        obtain ⟨rfl, hp2⟩ := chk_post hp
        exact ⟨z, rfl, rfl, hp2⟩
      | _ => exact hp.elim
    | _ => exact hp.elim
  | _ => exact hp.elim
theorem itKD_of {T : Tx} {m : Mm} {H : Hp} {h : Hm} {rel : Mm → Hp → D → V → Prop} {Q : VK} {x : Str} {kvs : List (Str × D)} {a b : D} (hp : Post T m H rel (itKD x kvs a b h) Q) :
    ∃ z d, a = .glob x ∧ b = .p (.str z) ∧ kvs.lookup z = some d ∧ Post T m H rel (ret d h) Q := by
  cases a with
  | glob y =>
    cases b with
    | p q =>
      cases q with
      | str z =>
        obtain ⟨rfl, hp2⟩ := chk_post hp
        cases e : kvs.lookup z with
        | none => rw [e] at hp2; exact hp2.elim
        | some d => rw [e] at hp2; exact ⟨z, d, rfl, rfl, e, hp2⟩
      | _ => exact hp.elim
    | _ => exact hp.elim
  | _ => exact hp.elim
section
variable {X : Cx} {W : XK} {x : Str} {kvs : List (Str × D)}
theorem o_inKD (F : KD X.K X.w X.mg x kvs) : Op2 X W (compareOp .In) (inKD false x kvs) := by
  obtain ⟨dd, es, n, hm, KDd, en⟩ := F.ex
  intro pins s σ H a b v u Q I ra rb h
  obtain ⟨m, h0, d, e, S, r1, r2, hp⟩ := h
  obtain ⟨z, rfl, rfl, hp2⟩ := inKD_of hp
  simp only [Rep, RepP] at r1 r2
  obtain ⟨g, rfl, hg⟩ := r2
  subst r1
  rw [hm] at hg
  cases hg
  have f := en.ns KDd.at_ z
  cases q : kvs.lookup z with
  | none =>
    rw [q] at f hp2
    exact op_in_kd KDd pins s σ H _ _ v u Q I ra rb ⟨z, none, rfl, rfl, f, hp2 m H _ S Ext.refl (by simp [Rep, RepP])⟩
  | some c =>
    rw [q] at f hp2
    obtain ⟨u1, v1, f, _⟩ := f
    exact op_in_kd KDd pins s σ H _ _ v u Q I ra rb ⟨z, some u1, rfl, rfl, f, hp2 m H _ S Ext.refl (by simp [Rep, RepP])⟩
theorem o_notInKD (F : KD X.K X.w X.mg x kvs) : Op2 X W (compareOp .NotIn) (inKD true x kvs) := by
  obtain ⟨dd, es, n, hm, KDd, en⟩ := F.ex
  intro pins s σ H a b v u Q I ra rb h
  obtain ⟨m, h0, d, e, S, r1, r2, hp⟩ := h
  obtain ⟨z, rfl, rfl, hp2⟩ := inKD_of hp
  simp only [Rep, RepP] at r1 r2
  obtain ⟨g, rfl, hg⟩ := r2
  subst r1
  rw [hm] at hg
  cases hg
  have f := en.ns KDd.at_ z
  cases q : kvs.lookup z with
  | none =>
    rw [q] at f hp2
    exact op_notIn_kd KDd pins s σ H _ _ v u Q I ra rb ⟨z, none, rfl, rfl, f, hp2 m H _ S Ext.refl (by simp [Rep, RepP])⟩
  | some c =>
    rw [q] at f hp2
    obtain ⟨u1, v1, f, _⟩ := f
    exact op_notIn_kd KDd pins s σ H _ _ v u Q I ra rb ⟨z, some u1, rfl, rfl, f, hp2 m H _ S Ext.refl (by simp [Rep, RepP])⟩
theorem ix_KD (F : KD X.K X.w X.mg x kvs) : Ix2 X W (itKD x kvs) := by
  obtain ⟨dd, es, n, hm, KDd, en⟩ := F.ex
  intro value slice pins s σ H a b v u Q I ra rb h hs
  obtain ⟨m, h0, d, e, S, r1, r2, hp⟩ := h
  obtain ⟨z, c, rfl, rfl, q, hp2⟩ := itKD_of hp
  simp only [Rep, RepP] at r1 r2
  obtain ⟨g, rfl, hg⟩ := r1
  subst r2
  rw [hm] at hg
  cases hg
  have f := en.ns KDd.at_ z
  rw [q] at f
  obtain ⟨u1, v1, f, rv, rp⟩ := f
  cases ra
  obtain ⟨t, rfl⟩ := rb
  have mo := PySem.W.mapOf_K (prog := X.prog) I.kIn KDd.at_ KDd.lit
  refine tail_any mo.typeIs PySem.F.slot_dict_getitem.lookup ?_ hs
  exact wpAny_getItem_of (PySem.strKind_is X.prog X.w z t) mo (PySem.W.find_K KDd.at_ f) ⟨v1, H, I.tok _, rv, hp2 m H _ S Ext.refl (rp m H)⟩
end
section
variable {X : Cx} {W : XK} {x : Str} {kvs : List (Str × D)} {pos : Pos}
theorem es_KD (hg : Gl X x) (F : KD X.K X.w X.mg x kvs) (hd : (x == ("__debug__" : Str)) = false := by decide) : ES X W (.Name x pos) (fun _ => ret (.glob x)) :=
  let ⟨_, _, _, hm, _⟩ := F.ex
  es_globD hg hm hd
end

section
variable {X : Cx} {W : XK} {x : Str} {pos : Pos}
theorem es_gt (d : PyData) (hg : Gl X x) (h : ∃ a, X.mg x = some (.ref a) ∧ ∀ m H, RepP X.w X.K m H d (.ref a)) (hd : (x == ("__debug__" : Str)) = false := by decide) : ES X W (.Name x pos) (cst d) :=
  let ⟨_, hm, rp⟩ := h
  es_go d hg hm rp hd
end
/-! ### a def that calls itself, so deep -/
def recM (lv : Nat → D → Hm → R D) (N : Nat) (B : (List D → M D) → Ev → M Fl) : Nat → List D → M D
  | 0 => fnM lv N fun _ => bad
  | n + 1 => fnM lv N (B (recM lv N B n))
section
variable {P : Program} {w : World} {K : PySem.W.Frag} {mg : Str → Option Value} {base : Heap}
theorem bs_bad {X : Cx} {W : XK} {sts : List Stmt} : BS X W sts (fun _ => bad) := pss_imp pss_never fun E σ H ⟨μ, m, h, S, V, hp⟩ => hp.elim
theorem rec_of {x : Str} {st : Stmt} {N ps : List Str} {k n : Nat} {lv : Nat → D → Hm → R D} {B : (List D → M D) → Ev → M Fl} (T : DefAt K mg x st ps) (S : FnScope N ps (defScope st)) (hlv : Lv lv) (hn : ps.length = n)
    (hb : ∀ (j : Nat) (F : List D → M D), k ≤ j → Def P w K mg base j x n (nox ∘ F) → ∀ (f : Addr) (cdv : Value) (A : Around) (outer : List Env) (s : Shared) (H : Hp) (E : XK), Room j (A.deeper (envOfC x (defScope st) s.heap.objs.size f cdv)) → (A.deeper (envOfC x (defScope st) s.heap.objs.size f cdv)).guards = some [] →
      BS (cxOf CX0 P w K mg base N x (defScope st) f cdv A outer s H E).nox E0 (defBody st) (B F)) : ∀ m : Nat, Def P w K mg base (k + 1 + m) x n (nox ∘ recM lv N.length B m)
  | 0 => def_of (k := k) T S hlv hn fun f cdv A outer s H E hr gd => bs_bad
  | m + 1 => def_of (k := k + 1 + m) T S hlv hn fun f cdv A outer s H E hr gd => hb (k + 1 + m) _ (by omega) (rec_of T S hlv hn hb m) f cdv A outer s H E hr gd
end

/-! ### a tuple of the module -/
def KItem : PyData → Value → Prop
  | .none, v => v = .none
  | .bool b, v => v = .bool b

  | .str z, v => ∃ t, v = .str z t
  | _, _ => False
def KItems : List PyData → List Value → Prop
  | [], [] => True
  | x :: xs, v :: vs => KItem x v ∧ KItems xs vs
  | [], _ :: _ => False
  | _ :: _, [] => False
theorem KItem.rep {w : World} {K : PySem.W.Frag} {m : Mm} {H : Hp} : ∀ {x : PyData} {v : Value}, KItem x v → ∃ u, RelV u v ∧ RepP w K m H x u
  | .none, _, h => ⟨.non, h, by simp only [RepP]⟩
  | .bool b, _, h => ⟨.bl b, h, by simp only [RepP]⟩
  | .int _, _, h => h.elim
  | .str z, _, h => ⟨.str z, h, by simp only [RepP]⟩
  | .list _, _, h => h.elim
  | .tuple _, _, h => h.elim
  | .dict _, _, h => h.elim
theorem KItems.rep {w : World} {K : PySem.W.Frag} {m : Mm} {H : Hp} : ∀ {xs : List PyData} {vs : List Value}, KItems xs vs → ∃ us, Vals us vs ∧ RepPs w K m H xs us
  | [], [], _ => ⟨[], .nil, by simp only [RepPs]⟩
  | x :: xs, v :: vs, ⟨h, h2⟩ => by
    obtain ⟨u, ru, pu⟩ := h.rep (K := K) (m := m) (H := H)
    obtain ⟨us, rs, ps⟩ := KItems.rep (K := K) (m := m) (H := H) h2
    exact ⟨u :: us, .cons ru rs, by simp only [RepPs]; exact ⟨u, us, rfl, pu, ps⟩⟩
  | [], _ :: _, h => h.elim
  | _ :: _, [], h => h.elim
theorem KItems.uni {w : World} {K : PySem.W.Frag} {m m' : Mm} {H H' : Hp} : ∀ {xs : List PyData} {vs : List Value} {us : List V}, KItems xs vs → Vals us vs → RepPs w K m H xs us → RepPs w K m' H' xs us := by
  intro xs vs us h r p
  induction xs generalizing vs us with
  | nil => simpa only [RepPs] using p
  | cons x xs ih =>
    simp only [RepPs] at p ⊢
    obtain ⟨v, r', rfl, h1, h2⟩ := p
    cases vs with
    | nil => exact h.elim
    | cons w ws =>
      obtain ⟨k1, k2⟩ := h
      cases r with
      | cons ra rb =>
        refine ⟨v, r', rfl, ?_, ih k2 rb h2⟩
        cases x with
        | list _ => exact k1.elim
        | tuple _ => exact k1.elim
        | dict _ => exact k1.elim
        | int _ => exact k1.elim
        | _ => simpa only [RepP] using h1
theorem KItems.noint {w : World} {K : PySem.W.Frag} {m : Mm} {H : Hp} : ∀ {xs : List PyData} {vs : List Value} {us : List V}, KItems xs vs → RepPs w K m H xs us → ∀ i, V.int i ∉ us := by
  intro xs
  induction xs with
  | nil =>
    intro vs us _ p i
    simp only [RepPs] at p
    subst p
    simp
  | cons x xs ih =>
    intro vs us h p i
    simp only [RepPs] at p
    obtain ⟨v, r', rfl, h1, h2⟩ := p
    cases vs with
    | nil => exact h.elim
    | cons w ws =>
      obtain ⟨k1, k2⟩ := h
      intro hm
      rcases List.mem_cons.mp hm with e | hm
      · subst e
        cases x with
        | list _ => exact k1.elim
        | tuple _ => exact k1.elim
        | dict _ => exact k1.elim
        | int _ => exact k1.elim
        | none => simp only [RepP] at h1; cases h1
        | bool _ => simp only [RepP] at h1; cases h1
        | str _ => simp only [RepP] at h1; cases h1
      · exact ih k2 h2 i hm
theorem rep_ktup {w : World} {K : PySem.W.Frag} {t : Addr} {its : Array Value} {n : Nat} {od : Option Addr} {sl : Array (Option Value)} {xs : List PyData} (l : K.lookup t = some ⟨.type "tuple", od, .seq its n, sl⟩) (h : its.size ≤ sizeLine) (r : KItems xs its.toList) : ∀ m H, RepP w K m H (.tuple xs) (.ref t) := by
  intro m H
  obtain ⟨us, rv, rp⟩ := r.rep (K := K) (m := m) (H := H)
  simp only [RepP]
  exact ⟨t, us, rfl, .inr ⟨.inr ⟨_, its, n, l, rfl, rfl, h, rv⟩, r.noint rp⟩, rp⟩
end MP
/-! MP10: str(x); dicts by hand; a call of a def that a name holds. -/
namespace MP
open PySem PySem.Spec PyProof.Rows L2
/-! ### str -/
def strOf (x : PyData) : M D := match x with
  | .str z => ret (.p (.str z))
  | .int i => chk (i.natAbs.log2 < 1920) (ret (.p (.str (toString i))))
  | .list xs => chk (okShow (.list xs)) (ret (.p (.str (PyData.shown (.list xs)))))
  | .tuple xs => chk (okShow (.tuple xs)) (ret (.p (.str (PyData.shown (.tuple xs)))))
  | _ => bad
section
variable {X : Cx} {W : XK}
theorem call_strD {k : Nat} (hr : Room k X.A) (hgd : X.A.guards = some []) : CallR X (.type "str") fun vs H Q => ∃ v m x, vs = [v] ∧ RdP X.w X.K m H x v ∧ ((∃ xs, x = .list xs) ∨ ∃ xs, x = .tuple xs) ∧ okShow x ∧ Q (.str x.shown) H := by
  intro pins s σ H vs us Q I rv h
  obtain ⟨v, m, x, rfl, r, hx, ⟨h1, h2, h3, h4⟩, q⟩ := h
  obtain ⟨u, rfl, ru⟩ := vals1 rv
  obtain ⟨as, rd, hsys⟩ := r.reads I ru
  have hu : X.A.units + 64 < cLine := hr.units
  have fin : ∀ h' t tk, (∀ b o, s.heap.get? b = some o → h'.get? b = some o) → EP X pins σ Q (.str x.shown t) { s with heap := h', toks := tk } := fun h' t tk k => ⟨.str x.shown, H, I.kept k, ⟨t, rfl⟩, q⟩
  cases rd with
  | list a1 a2 a3 a4 => exact str_of_reads (.list a1 a2 a3 a4) h1 (fun e z => absurd (hsys (h4 e) _ z) (by simp)) hgd (by omega) (fun _ _ e => e) fin h2
  | tuple a1 a2 a3 a4 => exact str_of_reads (.tuple a1 a2 a3 a4) h1 (fun e z => absurd (hsys (h4 e) _ z) (by simp)) hgd (by omega) (fun _ _ e => e) fin h2
  | _ => rcases hx with ⟨_, hx⟩ | ⟨_, hx⟩ <;> cases hx
theorem c_str {k : Nat} (hr : Room k X.A) (hgd : X.A.guards = some []) : CallS X W (.type "str") (one strOf) := by
  refine callS_one ((SkE.call_str_str.or call_str_int).or (call_strD hr hgd)) fun m H h q v Q S r hp => ?_
  cases q with
  | str z =>
    simp only [RdP, RepP] at r
    subst r
    exact .inl (.inl ⟨z, rfl, Post.ret hp S (by simp [Rep, RepP])⟩)
  | int i =>
    simp only [RdP, RepP] at r
    subst r
    obtain ⟨hz, hp⟩ := chk_post hp
    exact .inl (.inr ⟨i, rfl, hz, Post.ret hp S (by simp [Rep, RepP])⟩)
  | list xs =>
    obtain ⟨hz, hp⟩ := chk_post hp
    exact .inr ⟨v, m, _, rfl, r, .inl ⟨xs, rfl⟩, hz, Post.ret hp S (by simp [Rep, RepP])⟩
  | tuple xs =>
    obtain ⟨hz, hp⟩ := chk_post hp
    exact .inr ⟨v, m, _, rfl, r, .inr ⟨xs, rfl⟩, hz, Post.ret hp S (by simp [Rep, RepP])⟩
  | _ => exact hp.elim
end
/-! ### a dict's display, keys ints and texts -/
def prsE : List ((Ev → M D) × (Ev → M D)) → Ev → M (List (D × D))
  | [], _ => ret []
  | (k, v) :: r, μ => bnd (k μ) fun x => bnd (v μ) fun y => bnd (prsE r μ) fun ps => ret ((x, y) :: ps)
def RelPr (T : Tx) (m : Mm) (H : Hp) (a : List (D × D)) (b : List (V × V)) : Prop := RepA T.w T.K T.mg m H (a.map (·.1)) (b.map (·.1)) ∧ RepA T.w T.K T.mg m H (a.map (·.2)) (b.map (·.2))
theorem rd_prs (T : Tx) : ∀ (fs : List ((Ev → M D) × (Ev → M D))) (σ : L2.St) (H : Hp) (Q : List (V × V) → Hp → Prop), (∃ μ m h, Sim T.w T.K T.mg m H h ∧ EnvR T.w T.K T.mg m H μ σ ∧ Post T m H (RelPr T) (prsE fs μ h) Q) → tPairs (fs.map fun f => (rdE T f.1, rdE T f.2)) σ H Q
  | [], σ, H, Q, ⟨μ, m, h, S, V, hp⟩ => Post.ret hp S ⟨by simp [RepA], by simp [RepA]⟩
  | (k, v) :: r, σ, H, Q, ⟨μ, m, h, S, V, hp⟩ => by
    refine ⟨μ, m, h, S, V, Post.bnd hp fun x h1 m1 H1 a _ S1 X1 r1 hp1 => ?_⟩
    refine ⟨μ, m1, h1, S1, V.mono X1, Post.bnd hp1 fun y h2 m2 H2 b _ S2 X2 r2 hp2 => ?_⟩
    refine rd_prs T r σ H2 _ ⟨μ, m2, h2, S2, (V.mono X1).mono X2, Post.bnd hp2 fun ps h3 m3 H3 bs _ S3 X3 r3 hp3 => ?_⟩
    refine Post.ret hp3 S3 ⟨?_, ?_⟩
    · simp only [List.map_cons, RepA]
      exact ⟨a, _, rfl, (r1.mono X2).mono X3, r3.1⟩
    · simp only [List.map_cons, RepA]
      exact ⟨b, _, rfl, r2.mono X3, r3.2⟩
def toKey : PyData → Option Key
  | .int i => some (.inl i)
  | .str x => some (.inr x)
  | _ => none
theorem toKey_P (k : Key) : toKey (keyP k) = some k := by cases k <;> rfl
theorem keyP_of {x : PyData} {k : Key} (e : toKey x = some k) : x = keyP k := by
  cases x <;> cases e <;> rfl
theorem keyV {w : World} {K : PySem.W.Frag} {m : Mm} {H : Hp} {k : Key} {v : V} (r : RepP w K m H (keyP k) v) : v = kV k := by
  cases k <;> simpa only [keyP, RepP, kV] using r
/-- the keys of a display's pairs -/
def dKeys : List (D × D) → Option (List (Key × D))
  | [] => some []
  | (.p x, d) :: r => (toKey x).bind fun k => (dKeys r).map fun q => (k, d) :: q
  | _ :: _ => none
theorem dKeys_rep {w : World} {K : PySem.W.Frag} {mg : Str → Option Value} {m : Mm} {H : Hp} : ∀ {ps : List (D × D)} {q : List (Key × D)} {bs : List (V × V)}, dKeys ps = some q → RepA w K mg m H (ps.map (·.1)) (bs.map (·.1)) → RepA w K mg m H (ps.map (·.2)) (bs.map (·.2)) →
    ∃ kvs : List (Key × V), bs = kvs.map (fun kv => (kV kv.1, kv.2)) ∧ kvs.map (·.1) = q.map (·.1) ∧ RepA w K mg m H (q.map (·.2)) (kvs.map (·.2))
  | [], q, bs, e, r1, r2 => by
    simp only [dKeys, Option.some.injEq] at e
    subst e
    simp only [List.map_nil, RepA, List.map_eq_nil_iff] at r1
    subst r1
    exact ⟨[], rfl, rfl, by simp [RepA]⟩
  | (d, y) :: r, q, bs, e, r1, r2 => by
    cases bs with
    | nil => simp [RepA] at r1
    | cons b bs =>
      obtain ⟨b1, b2⟩ := b
      simp only [List.map_cons, RepA] at r1 r2
      obtain ⟨v1, t1, e1, ra, rb⟩ := r1
      obtain ⟨v2, t2, e2, rc, rd⟩ := r2
      simp only [List.cons.injEq] at e1 e2
      obtain ⟨rfl, rfl⟩ := e1
      obtain ⟨rfl, rfl⟩ := e2
      cases d with
      | p x =>
        simp only [dKeys, Option.bind_eq_some_iff, Option.map_eq_some_iff] at e
        obtain ⟨k, ek, q', eq', rfl⟩ := e
        obtain ⟨kvs, h1, h2, h3⟩ := dKeys_rep eq' rb rd
        have := keyP_of ek
        subst this
        simp only [Rep] at ra
        have := keyV ra
        subst this
        exact ⟨(k, b2) :: kvs, by rw [List.map_cons, ← h1], by simp [h2], by simp only [List.map_cons, RepA]; exact ⟨b2, _, rfl, rc, h3⟩⟩
      | _ => cases e
theorem merge_nodup : ∀ (kvs acc : List (Key × V)), ((acc ++ kvs).map (·.1)).Nodup → mergeK acc kvs = acc ++ kvs
  | [], acc, _ => by simp [mergeK]
  | p :: r, acc, hn => by
    have e : putK acc p.1 p.2 = acc ++ [p] := by
      unfold putK
      rw [if_neg]
      intro z
      rw [List.any_eq_true] at z
      obtain ⟨q, hq, e⟩ := z
      rw [List.map_append, List.nodup_append] at hn
      exact hn.2.2 q.1 (List.mem_map_of_mem hq) p.1 (by simp) (of_decide_eq_true e)
    have ih := merge_nodup r (acc ++ [p]) (by rw [List.append_assoc]; exact hn)
    have : mergeK acc (p :: r) = mergeK (putK acc p.1 p.2) r := rfl
    rw [this, e, ih, List.append_assoc]
    rfl
def newDct (ps : List (D × D)) : M D := match dKeys ps with
  | some q => chk ((q.map (·.1)).Nodup ∧ q.length ≤ 15) fun h => .ok (.cell h.length) (h ++ [.dct false (q.map fun p => (keyP p.1, p.2))])
  | none => bad
def dispE (fs : List ((Ev → M D) × (Ev → M D))) : Ev → M D := fun μ => bnd (nox (prsE fs μ)) newDct
section
variable {X : Cx} {W : XK} {pos : Pos}
abbrev PPsS (X : Cx) (W : XK) (pos : Pos) (keys : List (Option Expr)) (values : List Expr) (fs : List ((Ev → M D) × (Ev → M D))) : Prop := PPs X pos keys values (fs.map fun f => (rdE (tx X W) f.1, rdE (tx X W) f.2))
theorem pp_nil : PPsS X W pos [] [] [] := pps_nil
theorem pp_cons {k v : Expr} {ks : List (Option Expr)} {vs : List Expr} {fk fv : Ev → M D} {fs : List ((Ev → M D) × (Ev → M D))} (hk : ES X W k fk) (hv : ES X W v fv) (hr : PPsS X W pos ks vs fs) : PPsS X W pos (some k :: ks) (v :: vs) ((fk, fv) :: fs) := pps_cons hk hv hr
theorem es_disp {keys : List (Option Expr)} {values : List Expr} {fs : List ((Ev → M D) × (Ev → M D))} (h : PPsS X W pos keys values fs) (hall : keys.all (·.isSome) = true := by rfl) (hl : keys.length = values.length := by rfl) (h0 : keys ≠ [] := by simp) (h15 : keys.length ≤ 15 := by decide) : ES X W (.Dict keys values pos) (dispE fs) :=
  pe_imp (pe_disp h hall hl h0 h15) fun σ H Q ⟨μ, m, h, S, V, hp⟩ => fun p hn => by
    obtain ⟨ps, hz, er, hp⟩ := bnd_run hp
    have n1 : p ∉ m := S.notin hn
    have S1 := S.hide (o := .dK []) hn
    have M1 : Mov m H (m.hide p) (upd H p (.dK [])) := Mov.hide hn
    refine rd_prs (tx X W) fs σ _ _ ⟨μ, m.hide p, h, S1, V.mov M1, run_post er _ fun m2 H2 bs S2 X2 r2 => ?_⟩
    have pv : p ∈ m2.v := by rw [X2.same]; exact List.mem_cons_self ..
    have e2 : H2 p = some (.dK []) := X2.keep _ _ upd_same (S1.pv p (List.mem_cons_self ..)).2
    refine ⟨e2, ?_⟩
    unfold newDct at hp
    cases ek : dKeys ps with
    | none => rw [ek] at hp; exact hp.elim
    | some q =>
      rw [ek] at hp
      obtain ⟨⟨nd, h15'⟩, hp⟩ := chk_post hp
      obtain ⟨kvs, rfl, k1, k2⟩ := dKeys_rep ek r2.1 r2.2
      have hlen : kvs.length = q.length := by
        have := congrArg List.length k1
        simpa using this
      refine ⟨kvs, rfl, by omega, ?_⟩
      rw [merge_nodup kvs [] (by rw [List.nil_append, k1]; exact nd), List.nil_append]
      have em : m2 = Mm.hide ⟨m2.c, m.v⟩ p := by
        obtain ⟨c, v⟩ := m2
        have ev : v = p :: m.v := X2.same
        subst ev
        rfl
      have S3 := S2.priv (o := .dK kvs) pv
      have M3 : Mov m2 H2 m2 (upd H2 p (.dK kvs)) := Mov.priv pv
      have k3 := RepA.mov M3 _ _ k2
      rw [em] at S3 k3
      have hpv : p ∉ (⟨m2.c, m.v⟩ : Mm).v := fun z => n1 (Or.inr z)
      have S4 := S3.give (c := .dct false (q.map fun p => (keyP p.1, p.2))) hpv ⟨kvs.map (·.2), by rw [List.map_map]; exact RepA.mov Mov.give _ _ k3, .inl ⟨rfl, kvs, upd_same, by
        rw [List.map_map]
        have := congrArg (List.map keyP) k1
        rw [List.map_map, List.map_map] at this
        exact this, rfl⟩⟩
      refine hp _ _ (.ref p) S4 ⟨?_, rfl, fun a o qa na => ?_⟩ ?_
      · obtain ⟨t, et, ht⟩ := X2.pre
        have et' : m2.c = m.c ++ t := et
        refine ⟨t ++ [p], by show m2.c ++ [p] = _; rw [et', List.append_assoc], fun a ha => ?_⟩
        rcases List.mem_append.mp ha with z | z
        · have := ht a z
          by_cases eap : a = p
          · rw [eap]; exact hn
          · rw [upd_ne eap] at this; exact this
        · rw [List.mem_singleton.mp z]; exact hn
      · have nap : a ≠ p := ne_of_none qa hn
        rw [upd_ne nap]
        exact X2.keep _ _ (by rw [upd_ne nap]; exact qa) na
      · simp only [Rep]
        refine ⟨p, rfl, ?_⟩
        have hl : m2.c.length = hz.length := S2.len
        show (m2.c ++ [p])[hz.length]? = some p
        rw [← hl]
        simp
end
/-! ### a def that a name holds -/
def holdD (t : List (Str × Nat × (List D → M D))) : D → Option (Nat × (List D → M D))
  | .glob x => t.lookup x
  | _ => none
def callV (i : Nat) (t : List (Str × Nat × (List D → M D))) (fa : Ev → M (List D)) : Ev → M D := fun μ => bnd (var i μ) fun f => match holdD t f with
  | some (n, F) => bnd (fa μ) fun xs => chk (xs.length = n) ((nox ∘ F) xs)
  | none => bad
/-- every def of a table is known -/
def Tab (P : Program) (w : World) (K : PySem.W.Frag) (mg : Str → Option Value) (base : Heap) (k : Nat) : List (Str × Nat × (List D → M D)) → Prop
  | [] => True
  | (x, n, F) :: r => Def P w K mg base k x n (nox ∘ F) ∧ Tab P w K mg base k r
theorem Tab.get {P : Program} {w : World} {K : PySem.W.Frag} {mg : Str → Option Value} {base : Heap} {k : Nat} {x : Str} {n : Nat} {F : List D → M D} : ∀ {t : List (Str × Nat × (List D → M D))}, Tab P w K mg base k t → t.lookup x = some (n, F) → Def P w K mg base k x n (nox ∘ F)
  | (y, n', F') :: r, ⟨h, h2⟩, e => by
    rw [List.lookup_cons] at e
    by_cases q : x = y
    · subst q
      simp only [beq_self_eq_true, Option.some.injEq, Prod.mk.injEq] at e
      obtain ⟨rfl, rfl⟩ := e
      exact h
    · rw [show (x == y) = false by simpa using q] at e
      exact Tab.get h2 e
section
variable {X : Cx} {W : XK} {k j i : Nat} {x : Str} {p pos : Pos} {e : Expr} {es : List Expr} {fa : Ev → M (List D)} {t : List (Str × Nat × (List D → M D))}
theorem es_callV (T : Tab X.prog X.w X.K X.mg X.base k t) (hr : Room j X.A) (hk : k ≤ j) (gd : X.A.guards = some []) (ha : AS X W (e :: es) fa) (hN : X.N[i]? = some x := by rfl) (hv : Vis X.env.scope x := by first | exact Or.inl rfl | exact Or.inr (Or.inl rfl) | exact Or.inr (Or.inr rfl))
    (hdb : (x == ("__debug__" : Str)) = false := by decide) (hcd : (x == ("__classdict__" : Str)) = false := by decide)
    (he : starEach (e :: es) X.env = (false, eval e X.env) :: starEach es X.env := by rfl) (hpl : (backTo pos (starEach es X.env)).any (·.1) = false := by rfl) : ES X W (.Call (.Name x p) (e :: es) [] pos) (callV i t fa) := by
  refine ⟨fun pins s σ H Q I h => ?_⟩
  obtain ⟨μ, m, h0, S, V, hp⟩ := h
  unfold callV var at hp
  cases q : μ[i]? with
  | none => rw [q] at hp; exact hp.elim
  | some o =>
    rw [q] at hp
    cases o with
    | none => exact hp.elim
    | some d =>
      cases d with
      | glob y =>
        replace hp : Post (tx X W) m H (Rep X.w X.K X.mg) ((match holdD t (.glob y) with
          | some (n, F) => bnd (fa μ) fun xs => chk (xs.length = n) ((nox ∘ F) xs)
          | none => bad) h0) Q := hp
        cases e1 : holdD t (.glob y) with
        | none => rw [e1] at hp; exact hp.elim
        | some nF =>
          obtain ⟨n, F⟩ := nF
          rw [e1] at hp
          obtain ⟨f, fd, ps, FF, hm, kp, hb⟩ := (T.get e1).ex
          obtain ⟨v0, hs, r0⟩ := V.at_ i _ q
          simp only [Rep] at r0
          obtain ⟨a, rfl, ha2⟩ := r0
          rw [hm] at ha2
          cases ha2
          refine wpAny_Call_Name_kw (thn ((pe_var (pos := p) hN hv hdb hcd).run pins s σ H (fun v H1 => v = .ref f ∧ H1 = H) I ⟨.ref f, hs, rfl, rfl⟩) fun u s1 ⟨v, H1, I1, r1, q1⟩ => ?_)
          obtain ⟨rfl, rfl⟩ := q1
          cases r1
          refine PySem.W.callWith_K (h₀ := X.base) I.ok.mod.kin kp (thn (ha.run pos pins s1 σ _ _ I1 ⟨μ, m, h0, S, V, Post.bnd hp fun xs h1 m1 H1 vs _ S1 X1 r1 hp1 => ?_⟩) fun us s2 ⟨vs, H2, I2, r, q⟩ => ⟨I2.kIn, run_g (dvs := []) (ds := []) (E := E0) FF (hr.mono hk) gd hb .nil pass0 I2 r q⟩) he hpl
          obtain ⟨hl, hp1⟩ := chk_post hp1
          obtain ⟨d0, h9, e9, hp2⟩ := Post.nox hp1
          refine ⟨by rw [List.append_nil, r1.length]; exact hl, xs, m1, h1, S1, by rw [List.append_nil]; exact r1, ?_⟩
          have e0 : (nox ∘ F) xs h1 = .ok d0 h9 := by
            show nox (F xs) h1 = _
            unfold nox
            rw [e9]
          rw [e0]
          exact hp2
      | _ => exact hp.elim
end
section
variable {X : Cx} {W : XK} {x : Str} {pos : Pos}
/-- a def as a value -/
theorem es_fn {st : Stmt} {ps : List Str} (hg : Gl X x) (d : DefAt X.K X.mg x st ps) (hd : (x == ("__debug__" : Str)) = false := by decide) : ES X W (.Name x pos) (fun _ => ret (.glob x)) :=
  let ⟨_, _, _, hm, _⟩ := d.ex
  es_globD hg hm hd
end
end MP
/-! MP11: sorted(xs) of data that can be compared as far as they are alike. -/
namespace MP
open PySem PySem.Spec PyProof.Rows L2
/-- two rows, place by place, as far as they are equal -/
def lexA : List PyData → List PyData → Bool
  | [], _ => true
  | _ :: _, [] => true
  | x :: xs, y :: ys => PySem.W.alike x y && (!PyData.eqv x y || lexA xs ys)
def alikeL : PyData → PyData → Bool
  | .tuple xs, .tuple ys => lexA xs ys
  | x, y => PySem.W.alike x y
section
open PySem.W PySem.SeqAt
variable {prog : Program} {w : World} {A : Around} {E : Value → Shared → Prop} {s : Shared}
theorem katLex_lexA {b fin : Bool} {Q : Bool → Shared → Prop} : ∀ (xs ys : List PyData) (i : Nat) (vs ws : List Value) (as bs : List Addr), ReadsAll s.heap vs xs as → ReadsAll s.heap ws ys bs → lexA xs ys = true →
    A.units + min (PyData.depthAll xs) (PyData.depthAll ys) < cLine → (b = true → i = 0 → ∀ x r t, xs = x :: r → x ≠ .tuple t) → fin = decide (xs.length < ys.length) → Q (PyProof.Rows.lexLt itemOrd (keyToksAll xs) (keyToksAll ys)) s → KatLex prog w A b fin Q (vs.zip ws) i s
  | [], [], i, _, _, _, _, ra, rb, _, _, _, hf, hq => by
    cases ra
    cases rb
    have e : fin = false := by rw [hf]; rfl
    subst e
    rw [lex_irrefl] at hq
    exact kat_nil hq
  | [], y :: ys, i, _, _, _, _, ra, rb, _, _, _, hf, hq => by
    cases ra
    have e : fin = true := by rw [hf]; exact decide_eq_true (Nat.succ_pos _)
    subst e
    rw [toks_all_cons] at hq
    simp only [keyToksAll] at hq
    rw [lex_diff (O := itemOrd) (by simp)] at hq
    rw [List.zip_nil_left]
    exact kat_nil (by simpa [itemLt] using hq)
  | x :: xs, [], i, _, _, _, _, ra, rb, _, _, _, hf, hq => by
    cases rb
    have e : fin = false := by rw [hf]; exact decide_eq_false (Nat.not_lt_zero _)
    subst e
    rw [toks_all_cons] at hq
    simp only [keyToksAll] at hq
    rw [lex_diff (O := itemOrd) (by simp)] at hq
    rw [List.zip_nil_right]
    exact kat_nil (by simpa [itemLt] using hq)
  | x :: xs, y :: ys, i, _, _, _, _, ra, rb, h, hu, hb, hf, hq => by
    simp only [lexA, Bool.and_eq_true] at h
    obtain ⟨h1, h2⟩ := h
    have hf' : fin = decide (xs.length < ys.length) := by
      rw [hf]
      simp only [List.length_cons, Nat.add_lt_add_iff_right]
    cases ra with
    | cons r rs =>
      cases rb with
      | cons r' rs' =>
        rw [List.zip_cons_cons]
        refine kat_cons (eqAt_alike x y A s _ _ _ _ r r' h1 (room_head hu) prog w _ _ ?_)
        cases hx : PyData.eqv x y with
        | true =>
          rw [dataLt_all_yes h1 hx] at hq
          rw [hx] at h2
          exact kat_yes (katLex_lexA xs ys (i + 1) _ _ _ _ rs rs' (by simpa using h2) (room_tail hu) (fun _ hi => absurd hi (Nat.succ_ne_zero i)) hf' hq)
        | false =>
          rw [dataLt_all_no h1 hx] at hq
          refine kat_no (oneLt_alike (fun hbi t => ?_) r r' h1 (ne_none_of h1 hx) (room_head hu) hq)
          rw [Bool.and_eq_true] at hbi
          exact hb hbi.1 (by simpa using hbi.2) x xs t rfl
/-- they can be sorted: tuples, their first items alike, or alike things that are none -/
def SortOk (ds : List PyData) : Prop := (∀ d ∈ ds, ∀ d' ∈ ds, alikeL d d' = true) ∧ ((∀ d ∈ ds, ∃ x r, d = .tuple (x :: r)) ∨ ∀ d ∈ ds, d ≠ .none ∧ ∀ xs, d ≠ .tuple xs) ∧ (∀ d ∈ ds, ∀ d' ∈ ds, ∀ x r x' r', d = .tuple (x :: r) → d' = .tuple (x' :: r') → PySem.W.alike x x' = true) ∧ ∀ d ∈ ds, d.depth ≤ 60
theorem dataKind_some' {h : Heap} {ds : List PyData} {v : Value} {d : PyData} {as : List Addr} (hd : d ∈ ds) (r : Reads h v d as) : (dataKind h ds).keyOf v = some (keyToks d) := by
  have q : ∃ d, d ∈ ds ∧ ∃ as, Reads h v d as := ⟨d, hd, as, r⟩
  have e : (dataKind h ds).keyOf v = some (keyToks q.choose) := by
    show (open Classical in if q : ∃ d, d ∈ ds ∧ ∃ as, Reads h v d as then some (keyToks q.choose) else none) = _
    rw [dif_pos q]
  obtain ⟨h1, as', h2⟩ := q.choose_spec
  rw [e, (Reads.unique h2 _ _ r).1]
theorem sortsAt_data {vs : List Value} {ds : List PyData} (e : EachIs (fun v d => ∃ as, Reads s.heap v d as) vs ds) (ok : SortOk ds) (hu : A.units + 60 < cLine) : SortsAt prog w A s (dataKind s.heap ds) vs := by
  obtain ⟨hal, hk, hfst, hdp⟩ := ok
  have room : ∀ {d d' : PyData}, d ∈ ds → A.units + min d.depth d'.depth < cLine := fun {d d'} hd => Nat.lt_of_le_of_lt (Nat.add_le_add_left (Nat.le_trans (Nat.min_le_left _ _) (hdp d hd)) _) hu
  refine ⟨fun v hv => ?_, ?_⟩
  · obtain ⟨d, hd, as, r⟩ := e.left v hv
    exact ⟨_, dataKind_some' hd r⟩
  · rcases hk with ht | hn
    · cases ds with
      | nil =>
        cases e
        exact ⟨general', fun E x y a b Q ha _ _ => (by
          obtain ⟨d, _, hd, _⟩ := dataKind_inv ha
          exact absurd hd (by simp)), fun h2 => absurd h2 (by simp)⟩
      | cons d₀ ds₀ =>
        obtain ⟨x₀, r₀, e₀⟩ := ht d₀ (List.mem_cons_self ..)
        have hfirst : ∀ x r, PyData.tuple (x :: r) ∈ d₀ :: ds₀ → PySem.W.alike x x₀ = true := fun x r hm => hfst _ hm d₀ (List.mem_cons_self ..) x r x₀ r₀ rfl e₀
        refine ⟨tuples' (dataType x₀ != Value.type "tuple"), ?_, fun h2 E Q hq => ?_⟩
        · intro E x y a b Q ha hb hq
          obtain ⟨d, as, hd, ra, rfl⟩ := dataKind_inv ha
          obtain ⟨d', as', hd', rb, rfl⟩ := dataKind_inv hb
          have hdd := hal d hd d' hd'
          have hroom := room (d' := d') hd
          obtain ⟨x1, r1, rfl⟩ := ht d hd
          obtain ⟨x2, r2, rfl⟩ := ht d' hd'
          have hq' : Q (dataLt (.tuple (x1 :: r1)) (.tuple (x2 :: r2))) s := hq
          rw [dataLt_tuple] at hq'
          cases ra with
          | @tuple l o xs n _ _ h1 h2 h3 h4 =>
            cases rb with
            | @tuple l' o' xs' n' _ _ k1 k2 k3 k4 =>
              have n1 : xs.size = (x1 :: r1).length := by simpa using SeqAt.ReadsAll.length _ _ _ h4
              have n2 : xs'.size = (x2 :: r2).length := by simpa using SeqAt.ReadsAll.length _ _ _ k4
              refine kat_lt h1 h3 k1 k3 (katLex_lexA (x1 :: r1) (x2 :: r2) 0 _ _ _ _ h4 k4 hdd (by have q := SeqAt.room_in hroom; omega) (fun hb _ x r t ex => ?_) (by rw [n1, n2]) hq')
              obtain ⟨rfl, rfl⟩ := List.cons.inj ex
              have q := dataType_alike (hfirst _ _ hd)
              rw [← q] at hb
              exact dataType_tuple hb t
        · obtain ⟨fs, t1, t2, t3⟩ := each_katTups e ht
          refine kat_kind (T := dataType x₀) t1 (by omega) (fun f hf => ?_) (beq_self_eq_true _) hq
          obtain ⟨x, r, as, m1, m2⟩ := t3 f hf
          rw [← dataType_alike (hfirst x r m1)]
          exact looks_reads m2
    · have hal' : ∀ d ∈ ds, ∀ d' ∈ ds, PySem.W.alike d d' = true := fun d hd d' hd' => by
        have q := hal d hd d' hd'
        have n := (hn d hd).2
        cases d with
        | tuple xs => exact absurd rfl (n xs)
        | _ => exact q
      refine ⟨oneType', ?_, fun h2 E Q hq => ?_⟩
      · intro E x y a b Q ha hb hq
        obtain ⟨d, as, hd, ra, rfl⟩ := dataKind_inv ha
        obtain ⟨d', as', hd', rb, rfl⟩ := dataKind_inv hb
        rw [keyLt'_oneType]
        exact oneLt_alike (fun _ => (hn d hd).2) ra rb (hal' d hd d' hd') (hn d hd).1 (room hd) hq
      · cases ds with
        | nil =>
          cases e
          exact absurd h2 (by simp)
        | cons d₀ ds₀ =>
          refine kas_kind (T := dataType d₀) h2 (fun v hv => ?_) (dataType_other (hn d₀ (List.mem_cons_self ..)).2) (beq_self_eq_true _) hq
          obtain ⟨d, hd, as, r⟩ := e.left v hv
          rw [← dataType_alike (hal' d hd d₀ (List.mem_cons_self ..))]
          exact looks_reads r
end
def sortL (ds : List PyData) : List PyData := ds.mergeSort (PySem.W.dataLe false id)
section
open PySem.W
variable {X : Cx} {W : XK}
theorem sort_each {h : Heap} {R : Value → (PyData × V) → Prop} {bs : List (PyData × V)} {vs : List Value} (hR : EachIs R vs bs) (hk : EachIs (fun v b => ∃ as, Reads h v b.1 as) vs bs) :
    EachIs R (sortVals (dataKind h (bs.map (·.1))) false vs vs) (bs.mergeSort (PySem.W.dataLe false (·.1))) := by
  refine sortVals_each (κ := dataKind h (bs.map (·.1))) (fun b => keyToks b.1) hR ?_
  have : ∀ {vs : List Value} {cs : List (PyData × V)}, (∀ c ∈ cs, c ∈ bs) → EachIs (fun v b => ∃ as, Reads h v b.1 as) vs cs → EachIs (fun v b => (dataKind h (bs.map (·.1))).keyOf v = some (keyToks b.1)) vs cs := by
    intro vs cs hc h
    induction h with
    | nil => exact .nil
    | cons h t ih =>
      obtain ⟨as, r⟩ := h
      exact .cons (dataKind_some' (List.mem_map_of_mem (hc _ (List.mem_cons_self ..))) r) (ih fun c hm => hc c (List.mem_cons_of_mem _ hm))
  exact this (fun _ h => h) hk
/-- sorted(xs) -/
def rSorted (w : World) (K : PySem.W.Frag) : List V → Hp → VK → Prop := fun vs H Q => ∃ (a : Addr) (us : List V) (m : Mm) (ds : List PyData), vs = [V.ref a] ∧ SqL K H a us ∧ RepPs w K m H ds us ∧ SortOk ds ∧
  ∀ (us' : List V) (p : Addr), RepPs w K m H (sortL ds) us' → us'.length ≤ sizeLine → H p = none → Q (.ref p) (upd H p (.lst us'))
theorem each_rep {m : Mm} {H : Hp} : ∀ {ds : List PyData} {us : List V} {its : List Value}, RepPs X.w X.K m H ds us → Vals us its → EachIs (fun v (b : PyData × V) => RelV b.2 v ∧ RepP X.w X.K m H b.1 b.2) its (ds.zip us)
  | [], us, its, r, rv => by
    simp only [RepPs] at r
    subst r
    cases rv
    exact .nil
  | d :: ds, us, its, r, rv => by
    simp only [RepPs] at r
    obtain ⟨v, r', rfl, h1, h2⟩ := r
    cases rv with
    | cons ra rb => exact .cons ⟨ra, h1⟩ (each_rep h2 rb)
theorem each_back {m : Mm} {H : Hp} : ∀ {bs : List (PyData × V)} {out : List Value}, EachIs (fun v (b : PyData × V) => RelV b.2 v ∧ RepP X.w X.K m H b.1 b.2) out bs → Vals (bs.map (·.2)) out ∧ RepPs X.w X.K m H (bs.map (·.1)) (bs.map (·.2))
  | [], _, h => by
    cases h
    exact ⟨.nil, by simp only [List.map_nil, RepPs]⟩
  | b :: bs, _, h => by
    cases h with
    | cons h t =>
      obtain ⟨g1, g2⟩ := each_back t
      exact ⟨.cons h.1 g1, by simp only [List.map_cons, RepPs]; exact ⟨_, _, rfl, h.2, g2⟩⟩
theorem cr_sorted {k : Nat} (hr : Room k X.A) : CallR X (.builtin "sorted") (rSorted X.w X.K) := by
  intro pins s σ H vs us0 Q I r h
  obtain ⟨a, us, m, ds, rfl, hs, rp, ok, q⟩ := h
  obtain ⟨its, rv, hl, hz⟩ := I.list hs
  rw [Vals.ref1 r]
  have hlen0 : us.length = ds.length := rp.length
  have hz2 : its.length ≤ sizeLine := by rw [← rv.length]; exact hz
  have e1 := each_rep rp rv
  have hfst : (ds.zip us).map (·.1) = ds := List.map_fst_zip (Nat.le_of_eq hlen0.symm)
  have e2 : EachIs (fun v (b : PyData × V) => ∃ as, Reads (sortingHeap (copyHeap s.heap its) (s.heap.objs.size + 1) its) v b.1 as) its (ds.zip us) := e1.mono fun v b h => by
    obtain ⟨as, r, _⟩ := RepP.reads I b.1 b.2 v h.2 h.1
    exact ⟨as, PyProof.Rows.Reads.keeps (fun _ _ z => sorting_copy_old z) r⟩
  have e3 : EachIs (fun v d => ∃ as, Reads (sortingHeap (copyHeap s.heap its) (s.heap.objs.size + 1) its) v d as) its ds := by
    have : ∀ {bs : List (PyData × V)} {vs : List Value}, EachIs (fun v (b : PyData × V) => ∃ as, Reads (sortingHeap (copyHeap s.heap its) (s.heap.objs.size + 1) its) v b.1 as) vs bs → EachIs (fun v d => ∃ as, Reads (sortingHeap (copyHeap s.heap its) (s.heap.objs.size + 1) its) v d as) vs (bs.map (·.1)) := by
      intro bs vs h
      induction h with
      | nil => exact .nil
      | cons h t ih => exact .cons h ih
    have := this e2
    rwa [hfst] at this
  have hu : X.A.units + 64 < cLine := hr.units
  refine sorted_vals hl.isList (sortsAt_data (s := { s with heap := sortingHeap (copyHeap s.heap its) (s.heap.objs.size + 1) its }) e3 ok (by show X.A.in1.in1.units + 60 < cLine; simp only [Around.in1]; omega)) hz2 ?_
  have e4 := sort_each e1 e2
  rw [hfst] at e4
  obtain ⟨k1, k2⟩ := each_back (X := X) e4
  have es : ((ds.zip us).mergeSort (PySem.W.dataLe false (·.1))).map (·.1) = sortL ds := by
    have := List.map_mergeSort (r := PySem.W.dataLe false (·.1)) (s := PySem.W.dataLe false id) (f := fun b : PyData × V => b.1) (l := ds.zip us) (fun a _ b _ => rfl)
    rw [this]
    show ((ds.zip us).map (·.1)).mergeSort (PySem.W.dataLe false id) = sortL ds
    rw [hfst]
    rfl
  rw [es] at k2
  obtain ⟨ep, he'⟩ := PyProof.Rows.sortedAll_at s.heap its (sortVals (dataKind (sortingHeap (copyHeap s.heap its) (s.heap.objs.size + 1) its) ds) false its its).toArray
  have hlen : (((ds.zip us).mergeSort (PySem.W.dataLe false (·.1))).map (·.2)).length ≤ sizeLine := by
    rw [List.length_map, List.length_mergeSort, List.length_zip, hlen0]
    rw [← hlen0]
    exact Nat.le_trans (Nat.min_le_left _ _) hz
  exact ⟨.ref _, upd H (s.heap.objs.size + 1) (.lst _), I.laid (t' := s.toks) (fun _ _ => PyProof.Rows.sortedAll_old) (Nat.le_succ _) ⟨hlen, _, ep, k1, he'⟩, rfl, q _ _ k2 hlen (I.hok.fresh (Nat.le_succ _))⟩
open Classical in
noncomputable def sortedP : PyData → M D
  | .list xs => chk (SortOk xs) (ret (.p (.list (sortL xs))))
  | _ => bad
open Classical in
theorem c_sorted {k : Nat} (hr : Room k X.A) : CallS X W (.builtin "sorted") (one sortedP) := by
  refine callS_one (cr_sorted hr) fun m H h q v Q S r hp => ?_
  cases q with
  | list xs =>
    obtain ⟨a, vs, rfl, f, r⟩ := r
    obtain ⟨hz, hp⟩ := chk_post hp
    exact ⟨a, vs, m, xs, rfl, f, r, hz, fun us' p r' hl np => new_lst S r' hp p np⟩
  | _ => exact hp.elim
end
end MP
/-! MP12: <, <=, >, >= of data; max, min; pop; dicts. -/
namespace MP
open PySem PySem.Spec PyProof.Rows L2
section
variable {X : Cx} {W : XK} {k : Nat}
/-! ### order of data -/
def notNone : PyData → Bool
  | .none => false
  | _ => true
theorem notNone_ne {x : PyData} (h : notNone x = true) : x ≠ .none := fun e => by rw [e] at h; cases h
def ordG (g : PyData → PyData → Bool) (x y : PyData) : M D := chk (PySem.W.alike x y = true ∧ notNone x = true ∧ x.depth ≤ 60) (ret (.p (.bool (g x y))))
def ltG (x y : PyData) : Bool := PySem.W.dataLt x y
def gtG (x y : PyData) : Bool := PySem.W.dataLt y x
def leG (x y : PyData) : Bool := !PySem.W.dataLt y x
def geG (x y : PyData) : Bool := !PySem.W.dataLt x y
theorem op2_ord {op : CmpOp} {g : PyData → PyData → Bool} (hr : Room k X.A)
    (ho : ∀ {s : Shared} {a b : Value} {da db : PyData} {as bs : List Addr} {Q E : Value → Shared → Prop}, Reads s.heap a da as → Reads s.heap b db bs → PySem.W.alike da db = true → da ≠ .none → X.A.units + min da.depth db.depth < cLine → Q (.bool (g da db)) s → wpAny (model X.prog X.w) X.A (compareOp op a b) Q E s) : Op2 X W (compareOp op) (rd2 (ordG g)) := by
  intro pins s σ H x y v u Q I rx ry h
  obtain ⟨m, h0, d, e, S, r1, r2, hp⟩ := h
  obtain ⟨p, q, h1, h2, hp⟩ := rd2_post (T := tx X W) S r1 r2 hp
  obtain ⟨⟨c1, c2, c3⟩, hp⟩ := chk_post hp
  obtain ⟨as, ra, _⟩ := h1.reads I rx
  obtain ⟨bs, rb, _⟩ := h2.reads I ry
  have hu : X.A.units + 64 < cLine := hr.units
  exact ho ra rb c1 (notNone_ne c2) (Nat.lt_of_le_of_lt (Nat.add_le_add_left (Nat.le_trans (Nat.min_le_left _ _) c3) _) (by omega)) ⟨.bl _, H, I, rfl, Post.ret hp S (by simp [Rep, RepP])⟩
theorem o_ltG (hr : Room k X.A) : Op2 X W (compareOp .Lt) (rd2 (ordG ltG)) := op2_ord hr fun ra rb c n u q => PySem.W.lt_data ra rb c n u q
theorem o_gtG (hr : Room k X.A) : Op2 X W (compareOp .Gt) (rd2 (ordG gtG)) := op2_ord hr fun ra rb c n u q => PySem.W.gt_data ra rb c n u q
theorem o_leG (hr : Room k X.A) : Op2 X W (compareOp .LtE) (rd2 (ordG leG)) := op2_ord hr fun ra rb c n u q => PySem.W.le_data ra rb c n u q
theorem o_geG (hr : Room k X.A) : Op2 X W (compareOp .GtE) (rd2 (ordG geG)) := op2_ord hr fun ra rb c n u q => PySem.W.ge_data ra rb c n u q
/-! ### max, min of two ints or three -/
def mxI (i j : Int) : Int := if j > i then j else i
def mnI (i j : Int) : Int := if j < i then j else i
def maxD : List D → M D
  | [.p (.int i), .p (.int j)] => ret (.p (.int (mxI i j)))
  | [.p (.int i), .p (.int j), .p (.int l)] => ret (.p (.int (mxI (mxI i j) l)))
  | _ => bad
def minD : List D → M D
  | [.p (.int i), .p (.int j)] => ret (.p (.int (mnI i j)))
  | [.p (.int i), .p (.int j), .p (.int l)] => ret (.p (.int (mnI (mnI i j) l)))
  | _ => bad
theorem nuMax_int (i j : Int) : nuMax2 (.int i) (.int j) = some (.int (mxI i j)) := by
  show some (if decide (i < j) = true then V.int j else V.int i) = _
  unfold mxI
  by_cases c : i < j
  · rw [if_pos (decide_eq_true c), if_pos c]
  · rw [if_neg (by simpa using c), if_neg c]
theorem nuMin_int (i j : Int) : nuMin2 (.int i) (.int j) = some (.int (mnI i j)) := by
  show some (if decide (j < i) = true then V.int j else V.int i) = _
  unfold mnI
  by_cases c : j < i
  · rw [if_pos (decide_eq_true c), if_pos c]
  · rw [if_neg (by simpa using c), if_neg c]
theorem c_max (hc : X.calm = true) : CallS X W (.builtin "max") maxD := by
  intro pins s σ H vs us Q I rv hh
  obtain ⟨m, h, ds, S, r, hp⟩ := hh
  unfold maxD at hp
  split at hp
  · simp only [RepA, Rep, RepP] at r
    obtain ⟨v1, _, rfl, rfl, v2, _, rfl, rfl, rfl⟩ := r
    exact call_max2Nu hc pins s σ H _ us Q I rv ⟨_, _, _, rfl, nuMax_int _ _, Post.ret hp S (by simp [Rep, RepP])⟩
  · simp only [RepA, Rep, RepP] at r
    obtain ⟨v1, _, rfl, rfl, v2, _, rfl, rfl, v3, _, rfl, rfl, rfl⟩ := r
    exact call_max3Nu hc pins s σ H _ us Q I rv ⟨_, _, _, _, rfl, by unfold nuMax3; rw [nuMax_int]; exact nuMax_int _ _, Post.ret hp S (by simp [Rep, RepP])⟩
  · exact hp.elim
theorem c_min (hc : X.calm = true) : CallS X W (.builtin "min") minD := by
  intro pins s σ H vs us Q I rv hh
  obtain ⟨m, h, ds, S, r, hp⟩ := hh
  unfold minD at hp
  split at hp
  · simp only [RepA, Rep, RepP] at r
    obtain ⟨v1, _, rfl, rfl, v2, _, rfl, rfl, rfl⟩ := r
    exact call_min2Nu hc pins s σ H _ us Q I rv ⟨_, _, _, rfl, nuMin_int _ _, Post.ret hp S (by simp [Rep, RepP])⟩
  · simp only [RepA, Rep, RepP] at r
    obtain ⟨v1, _, rfl, rfl, v2, _, rfl, rfl, v3, _, rfl, rfl, rfl⟩ := r
    exact call_min3Nu hc pins s σ H _ us Q I rv ⟨_, _, _, _, rfl, by unfold nuMin3; rw [nuMin_int]; exact nuMin_int _ _, Post.ret hp S (by simp [Rep, RepP])⟩
  · exact hp.elim
/-! ### xs.pop(i) -/
def popK (i : Int) (xs : List D) : R (D × List D) := if -(2 ^ 63) ≤ i ∧ i < 2 ^ 63 then (match seqIndex? i xs.length with
  | some k => (match xs[k]? with
    | some y => .ok (y, xs.eraseIdx k) []
    | none => .bad)
  | none => .bad) else .bad
def popD (x : D) : List D → M D
  | [.p (.int i)] => onList x (popK i)
  | _ => bad
theorem RepA.erase {w : World} {K : PySem.W.Frag} {mg : Str → Option Value} {m : Mm} {H : Hp} : ∀ {xs : List D} {vs : List V} (k : Nat), RepA w K mg m H xs vs → RepA w K mg m H (xs.eraseIdx k) (vs.eraseIdx k)
  | [], vs, k, h => by simp only [RepA] at h; subst h; simp [RepA]
  | x :: xs, vs, 0, h => by
    simp only [RepA] at h
    obtain ⟨v, r, rfl, h1, h2⟩ := h
    simpa only [List.eraseIdx_cons_zero] using h2
  | x :: xs, vs, k + 1, h => by
    simp only [RepA] at h
    obtain ⟨v, r, rfl, h1, h2⟩ := h
    simp only [List.eraseIdx_cons_succ, RepA]
    exact ⟨v, _, rfl, h1, RepA.erase k h2⟩
theorem m_pop : MetS X W "list.pop" popD := by
  refine mt_imp mt_popAt fun v vs H Q ⟨m, h, x, xs, S, r1, r2, hp⟩ => ?_
  unfold popD at hp
  split at hp
  · rename_i i
    simp only [RepA, Rep, RepP] at r2
    obtain ⟨w, _, rfl, rfl, rfl⟩ := r2
    obtain ⟨a, ys, us, d', zs, h', rfl, hv, rv, e, q⟩ := onList_post S r1 hp
    unfold popK at e
    split at e
    · rename_i c
      cases e1 : seqIndex? i ys.length with
      | none => rw [e1] at e; cases e
      | some k =>
        rw [e1] at e
        simp only at e
        cases e2 : ys[k]? with
        | none => rw [e2] at e; cases e
        | some y =>
          rw [e2] at e
          cases e
          obtain ⟨w, hw, rw'⟩ := repA_at rv e2
          exact ⟨a, us, i, k, w, rfl, rfl, hv, c.1, c.2, by rw [rv.length]; exact e1, hw, q _ _ (rv.erase k) rw'⟩
    · cases e
  · exact hp.elim
end
end MP
/-! MP13: dicts that are cells or frozen: d[k], k in d, d.get(k[, x]), d[k] = v; keys ints and texts, or tuples of any depth. -/
namespace MP
open PySem PySem.Spec PyProof.Rows L2
/-! ### keys -/
mutual
def nkD : PyData → Option NestedKey
  | .none => some .none
  | .int i => some (.num i)
  | .str x => some (.text x)
  | .tuple xs => (nkDs xs).map .tup
  | _ => none
def nkDs : List PyData → Option (List NestedKey)
  | [] => some []
  | x :: xs => (nkD x).bind fun k => (nkDs xs).map (k :: ·)
end
mutual
theorem nkD_data : ∀ k : NestedKey, nkD k.data = some k
  | .none => rfl
  | .num i => rfl
  | .text x => rfl
  | .tup ks => by simp only [NestedKey.data, nkD, nkDs_datas ks, Option.map_some]
theorem nkDs_datas : ∀ ks : List NestedKey, nkDs (NestedKey.datas ks) = some ks
  | [] => rfl
  | k :: ks => by simp only [NestedKey.datas, nkDs, nkD_data k, nkDs_datas ks, Option.bind_some, Option.map_some]
end
mutual
theorem nkD_of : ∀ (x : PyData) (k : NestedKey), nkD x = some k → x = k.data
  | .none, k, h => by simp only [nkD, Option.some.injEq] at h; subst h; rfl
  | .int i, k, h => by simp only [nkD, Option.some.injEq] at h; subst h; rfl
  | .str i, k, h => by simp only [nkD, Option.some.injEq] at h; subst h; rfl
  | .tuple xs, k, h => by
    simp only [nkD, Option.map_eq_some_iff] at h
    obtain ⟨ks, h, rfl⟩ := h
    rw [NestedKey.data, nkDs_of xs ks h]
  | .bool _, k, h => by simp [nkD] at h
  | .list _, k, h => by simp [nkD] at h
  | .dict _, k, h => by simp [nkD] at h
theorem nkDs_of : ∀ (xs : List PyData) (ks : List NestedKey), nkDs xs = some ks → xs = NestedKey.datas ks
  | [], ks, h => by simp only [nkDs, Option.some.injEq] at h; subst h; rfl
  | x :: xs, ks, h => by
    simp only [nkDs, Option.bind_eq_some_iff, Option.map_eq_some_iff] at h
    obtain ⟨k, h1, ks', h2, rfl⟩ := h
    rw [NestedKey.datas, nkD_of x k h1, nkDs_of xs ks' h2]
end
/-- a key that is a tuple, not too deep -/
def tk : PyData → Option NestedKey
  | .tuple xs => (nkD (.tuple xs)).bind fun k => if k.depth ≤ 8 then some k else none
  | _ => none
theorem tk_of {q : PyData} {k : NestedKey} (e : tk q = some k) : q = k.data ∧ k.depth ≤ 8 ∧ nkD q = some k := by
  cases q with
  | tuple xs =>
    simp only [tk, Option.bind_eq_some_iff] at e
    obtain ⟨k', h1, h2⟩ := e
    split at h2
    · cases h2
      rename_i hd
      exact ⟨nkD_of _ _ h1, hd, h1⟩
    · cases h2
  | _ => cases e
theorem tk_ref {w : World} {K : PySem.W.Frag} {m : Mm} {H : Hp} {q : PyData} {k : NestedKey} {v : V} (e : tk q = some k) (r : RepP w K m H q v) : ∃ b, v = .ref b := by
  cases q with
  | tuple xs => simp only [RepP] at r; obtain ⟨a, _, rfl, _⟩ := r; exact ⟨a, rfl⟩
  | _ => cases e
/-- what is found, or not -/
def oRep (w : World) (K : PySem.W.Frag) (mg : Str → Option Value) (m : Mm) (H : Hp) (ov : Option V) : Option D → Prop
  | none => ov = none
  | some d => ∃ v, ov = some v ∧ Rep w K mg m H d v
/-! over both kinds -/
section
variable {κ : Type} [DecidableEq κ]
def dfind {α : Type} (dec : PyData → Option κ) (kvs : List (PyData × α)) (k : κ) : Option α := (kvs.find? fun p => decide (dec p.1 = some k)).map (·.2)
def dputL {α : Type} (dec : PyData → Option κ) (kvs : List (PyData × α)) (k : κ) (q : PyData) (d : α) : List (PyData × α) :=
  if (kvs.any fun p => decide (dec p.1 = some k)) = true then kvs.map (fun p => if dec p.1 = some k then (p.1, d) else p) else kvs ++ [(q, d)]
variable {enc : κ → PyData} {dec : PyData → Option κ} {w : World} {K : PySem.W.Frag} {mg : Str → Option Value} {m : Mm} {H : Hp}
theorem dfind_rep (hd : ∀ k, dec (enc k) = some k) (k : κ) : ∀ {kvs : List (PyData × D)} {kk : List (κ × V)}, kk.map (fun p => enc p.1) = kvs.map (·.1) → RepA w K mg m H (kvs.map (·.2)) (kk.map (·.2)) → oRep w K mg m H (valV kk k) (dfind dec kvs k)
  | [], [], _, _ => rfl
  | [], _ :: _, e, _ => by simp at e
  | (x, d) :: r, [], e, _ => by simp at e
  | (x, d) :: r, (k', v) :: s, e, rp => by
    simp only [List.map_cons, List.cons.injEq] at e
    obtain ⟨e1, e2⟩ := e
    simp only [List.map_cons, RepA] at rp
    obtain ⟨v', t, ev, ra, rb⟩ := rp
    simp only [List.cons.injEq] at ev
    obtain ⟨rfl, rfl⟩ := ev
    have ih := dfind_rep hd k e2 rb
    have ek : dec x = some k' := by rw [← e1, hd]
    by_cases q : k' = k
    · subst q
      have : dfind dec ((x, d) :: r) k' = some d := by simp [dfind, List.find?_cons, ek]
      rw [this]
      exact ⟨v, valV_pos rfl, ra⟩
    · have h1 : dfind dec ((x, d) :: r) k = dfind dec r k := by simp [dfind, List.find?_cons, ek, q]
      rw [h1, valV_neg (p := (k', v)) q]
      exact ih
theorem any_rep {α : Type} (hd : ∀ k, dec (enc k) = some k) (k : κ) : ∀ {kvs : List (PyData × D)} {kk : List (κ × α)}, kk.map (fun p => enc p.1) = kvs.map (·.1) → (kvs.any fun p => decide (dec p.1 = some k)) = (kk.any fun kv => decide (kv.1 = k))
  | [], [], _ => rfl
  | [], _ :: _, e => by simp at e
  | (x, d) :: r, [], e => by simp at e
  | (x, d) :: r, (k', v) :: s, e => by
    simp only [List.map_cons, List.cons.injEq] at e
    obtain ⟨e1, e2⟩ := e
    have ek : dec x = some k' := by rw [← e1, hd]
    simp only [List.any_cons, any_rep hd k e2, ek, Option.some.injEq]
theorem map_rep (hd : ∀ k, dec (enc k) = some k) (k : κ) {d : D} {v : V} (rd : Rep w K mg m H d v) : ∀ {kvs : List (PyData × D)} {kk : List (κ × V)}, kk.map (fun p => enc p.1) = kvs.map (·.1) → RepA w K mg m H (kvs.map (·.2)) (kk.map (·.2)) →
    (kk.map (fun kv => if kv.1 = k then (kv.1, v) else kv)).map (fun p => enc p.1) = (kvs.map (fun p => if dec p.1 = some k then (p.1, d) else p)).map (·.1) ∧ RepA w K mg m H ((kvs.map (fun p => if dec p.1 = some k then (p.1, d) else p)).map (·.2)) ((kk.map (fun kv => if kv.1 = k then (kv.1, v) else kv)).map (·.2))
  | [], [], _, _ => ⟨rfl, by simp [RepA]⟩
  | [], _ :: _, e, _ => by simp at e
  | (x, d') :: r, [], e, _ => by simp at e
  | (x, d') :: r, (k', v') :: s, e, rp => by
    simp only [List.map_cons, List.cons.injEq] at e
    obtain ⟨e1, e2⟩ := e
    simp only [List.map_cons, RepA] at rp
    obtain ⟨v2, t, ev, ra, rb⟩ := rp
    simp only [List.cons.injEq] at ev
    obtain ⟨rfl, rfl⟩ := ev
    obtain ⟨g1, g2⟩ := map_rep hd k rd e2 rb
    have ek : dec x = some k' := by rw [← e1, hd]
    by_cases q : k' = k
    · subst q
      simp only [List.map_cons, ek, if_true, RepA, g1, e1]
      exact ⟨trivial, v, _, rfl, rd, g2⟩
    · simp only [List.map_cons, ek, Option.some.injEq, q, if_false, RepA, g1, e1]
      exact ⟨trivial, v', _, rfl, ra, g2⟩
theorem put_rep (hd : ∀ k, dec (enc k) = some k) {k : κ} {d : D} {v : V} (rd : Rep w K mg m H d v) {kvs : List (PyData × D)} {kk : List (κ × V)} (e : kk.map (fun p => enc p.1) = kvs.map (·.1)) (r : RepA w K mg m H (kvs.map (·.2)) (kk.map (·.2))) :
    (putK kk k v).map (fun p => enc p.1) = (dputL dec kvs k (enc k) d).map (·.1) ∧ RepA w K mg m H ((dputL dec kvs k (enc k) d).map (·.2)) ((putK kk k v).map (·.2)) := by
  unfold putK dputL
  rw [any_rep hd k e]
  split
  · exact map_rep hd k rd e r
  · simp only [List.map_append, e, List.map_cons, List.map_nil]
    exact ⟨trivial, r.append (by simp only [RepA]; exact ⟨v, [], rfl, rd, rfl⟩)⟩
end
/-! ### a dict whose keys are tuples, on the machine -/
def zipN (xs : List (NestedKey × Addr × Value)) (vs : List V) : List (NestedKey × V) := List.zipWith (fun x v => (x.1, v)) xs vs
theorem zipN_fst : ∀ {xs : List (NestedKey × Addr × Value)} {vs : List V}, Vals vs (xs.map (·.2.2)) → (zipN xs vs).map (fun p => p.1.data) = keysD xs
  | [], _, .nil => rfl
  | x :: xs, _, .cons r t => by simp only [zipN, List.zipWith_cons_cons, List.map_cons, keysD]; exact congrArg _ (zipN_fst t)
theorem zipN_snd : ∀ {xs : List (NestedKey × Addr × Value)} {vs : List V}, Vals vs (xs.map (·.2.2)) → (zipN xs vs).map (·.2) = vs
  | [], _, .nil => rfl
  | x :: xs, _, .cons r t => by simp only [zipN, List.zipWith_cons_cons, List.map_cons]; exact congrArg _ (zipN_snd t)
theorem zipN_kv : ∀ {xs : List (NestedKey × Addr × Value)} {vs : List V}, Vals vs (xs.map (·.2.2)) → KV (zipN xs vs) (pairsH xs)
  | [], _, .nil => .nil
  | x :: xs, _, .cons r t => .cons ⟨rfl, r⟩ (zipN_kv t)
section
variable {X : Cx} {pins : List (Addr × Obj)} {σ : L2.St} {H : Hp} {s : Shared} {m : Mm} {a b : Addr} {k : NestedKey} {xs : List (NestedKey × Addr × Value)} {vs : List V} {A : Around} {E : Value → Shared → Prop}
theorem keys_at (I : Inv X pins σ H s) : ∀ {xs : List (NestedKey × Addr × Value)}, RepPs X.w X.K m H (keysD xs) (keysV xs) → ∀ x ∈ xs, NestedIs s.heap x.1 (.ref x.2.1)
  | [], _, x, hx => nomatch hx
  | y :: xs, h, x, hx => by
    simp only [keysD, keysV, List.map_cons, RepPs] at h
    obtain ⟨v, r', e, h1, h2⟩ := h
    obtain ⟨rfl, rfl⟩ := List.cons.inj e
    rcases List.mem_cons.mp hx with rfl | hx
    · exact key_is I _ _ _ h1 rfl
    · exact keys_at I h2 x hx
theorem dn_at (I : Inv X pins σ H s) (d : DN X.w H a xs) (hk : RepPs X.w X.K m H (keysD xs) (keysV xs)) : s.heap.DictOfH (nestedKind X.prog X.w) a xs := by
  obtain ⟨o, es, ep, ho, hc, hd, he⟩ := dn_raw I d
  exact ⟨o, es, ep, ho, hc, hd, he, fun x hx => ⟨keys_at I hk x hx, d.dep x hx⟩, d.nd⟩
/-- a dict of deep keys, or an empty one -/
def DE (X : Cx) (H : Hp) (a : Addr) (xs : List (NestedKey × Addr × Value)) : Prop := DN X.w H a xs ∨ (xs = [] ∧ H a = some (.dK []))
theorem de_at (I : Inv X pins σ H s) (d : DE X H a xs) (hk : RepPs X.w X.K m H (keysD xs) (keysV xs)) : (a == sysModules) = false ∧ s.heap.DictOfH (nestedKind X.prog X.w) a xs := by
  rcases d with d | ⟨rfl, e⟩
  · exact ⟨d.sys, dn_at I d hk⟩
  · obtain ⟨_, hs, us, hkv, o, es, ep, ho, hx, hd, _, hp, _⟩ := dk_rd I.hok (.inl e)
    cases hkv
    refine ⟨hs, o, es, ep, ho, hx, hd, ?_, fun _ h => (nomatch h), List.nodup_nil⟩
    have : es.toList = [] := by
      cases q : es.toList with
      | nil => rfl
      | cons _ _ => rw [q] at hp; cases hp
    rw [this]; rfl
/-- what is read of a dict: by HandS's rules, or a dict of deep keys -/
def DG (X : Cx) (H : Hp) (a : Addr) (y : V) (r : Option V) : Prop := DGet H a y r ∨
  ∃ m xs vs k b, DE X H a xs ∧ RepPs X.w X.K m H (keysD xs) (keysV xs) ∧ Vals vs (xs.map (·.2.2)) ∧ y = .ref b ∧ RepP X.w X.K m H k.data (.ref b) ∧ k.depth ≤ 8 ∧ r = valV (zipN xs vs) k
theorem nk_room (hu : A.units + 9 < cLine) : (nestedKind X.prog X.w).room A.in1 := by show A.units + 1 + 8 < cLine; omega
theorem dg_typeIs (I : Inv X pins σ H s) {y : V} {o : Option V} (g : DG X H a y o) : s.TypeIs (.ref a) "dict" := by
  rcases g with g | ⟨m, xs, vs, k, b, d, hk, _⟩
  · exact dict_typeIs I g
  · exact (de_at I d hk).2.typeIs
theorem dg_getItem {v y : V} {u : Value} {Q : Value → Shared → Prop} (hu : A.units + 9 < cLine) (I : Inv X pins σ H s) (g : DG X H a y (some v)) (ry : RelV y u) (h : ∀ w' s', Inv X pins σ H s' → RelV v w' → Q w' s') :
    wpAny (model X.prog X.w) A (getItem (.ref a) u) Q E s := by
  rcases g with g | ⟨m, xs, vs, k, b, d, hk, hv, rfl, kb, kd, l⟩
  · exact d_getItem (by omega) I g ry h
  · cases ry
    have q := (zipN_kv hv).val k
    rw [← l, valueAt_pairsH] at q
    cases e : atKey xs k with
    | none => rw [e] at q; exact q.elim
    | some p =>
      rw [e] at q
      exact wpAny_getItem_heap (nk_room hu) ⟨key_is I k _ _ kb rfl, kd⟩ (de_at I d hk).2 e (h p.2 _ (I.tok _) q)
theorem dg_in {y : V} {o : Option V} {u : Value} {Q : Value → Shared → Prop} (hu : A.units + 9 < cLine) (I : Inv X pins σ H s) (g : DG X H a y o) (ry : RelV y u) (h : ∀ s', Inv X pins σ H s' → Q (.bool o.isSome) s') :
    wpAny (model X.prog X.w) A (compareOp .In u (.ref a)) Q E s := by
  rcases g with g | ⟨m, xs, vs, k, b, d, hk, hv, rfl, kb, kd, l⟩
  · exact d_in (by omega) I g ry h
  · cases ry
    have q := ((zipN_kv hv).val k).isSome_eq
    rw [← l, valueAt_pairsH, Option.isSome_map] at q
    refine wpAny_in_heap (nk_room hu) ⟨key_is I k _ _ kb rfl, kd⟩ (de_at I d hk).1 (de_at I d hk).2 ?_
    rw [← q]
    exact h _ (I.tok _)
theorem dg_notIn {y : V} {o : Option V} {u : Value} {Q : Value → Shared → Prop} (hu : A.units + 9 < cLine) (I : Inv X pins σ H s) (g : DG X H a y o) (ry : RelV y u) (h : ∀ s', Inv X pins σ H s' → Q (.bool (!o.isSome)) s') :
    wpAny (model X.prog X.w) A (compareOp .NotIn u (.ref a)) Q E s := by
  rcases g with g | ⟨m, xs, vs, k, b, d, hk, hv, rfl, kb, kd, l⟩
  · exact d_notIn (by omega) I g ry h
  · cases ry
    have q := ((zipN_kv hv).val k).isSome_eq
    rw [← l] at q
    refine notIn_keyed (knd := nestedKind X.prog X.w) (nk_room hu) ⟨key_is I k _ _ kb rfl, kd⟩ (de_at I d hk).1 ⟨xs, (de_at I d hk).2, rfl⟩ ?_
    rw [← q]
    exact h _ (I.tok _)
theorem dg_get1 {y : V} {o : Option V} {u : Value} {Q : Value → Shared → Prop} (hu : A.units + 9 < cLine) (I : Inv X pins σ H s) (g : DG X H a y o) (ry : RelV y u) (h : ∀ w' s', Inv X pins σ H s' → RelV (o.getD .non) w' → Q w' s') :
    wpAny (model X.prog X.w) A (call (.builtin "dict.get") [.ref a, u]) Q E s := by
  rcases g with g | ⟨m, xs, vs, k, b, d, hk, hv, rfl, kb, kd, l⟩
  · exact d_get1 (by omega) I g ry h
  · cases ry
    have q := (zipN_kv hv).val k
    rw [← l] at q
    exact get_keyed (knd := nestedKind X.prog X.w) (nk_room hu) ⟨key_is I k _ _ kb rfl, kd⟩ (de_at I d hk).1 ⟨xs, (de_at I d hk).2, rfl⟩ (h _ _ (I.tok _) (q.getD rfl))
theorem dg_get2 {y z : V} {o : Option V} {u uz : Value} {Q : Value → Shared → Prop} (hu : A.units + 9 < cLine) (I : Inv X pins σ H s) (g : DG X H a y o) (ry : RelV y u) (rz : RelV z uz) (h : ∀ w' s', Inv X pins σ H s' → RelV (o.getD z) w' → Q w' s') :
    wpAny (model X.prog X.w) A (call (.builtin "dict.get") [.ref a, u, uz]) Q E s := by
  rcases g with g | ⟨m, xs, vs, k, b, d, hk, hv, rfl, kb, kd, l⟩
  · exact d_get2 (by omega) I g ry rz h
  · cases ry
    have q := (zipN_kv hv).val k
    rw [← l] at q
    exact getOr_keyed (knd := nestedKind X.prog X.w) (nk_room hu) ⟨key_is I k _ _ kb rfl, kd⟩ (de_at I d hk).1 ⟨xs, (de_at I d hk).2, rfl⟩ (h _ _ (I.tok _) (q.getD rz))
/-- a dict of deep keys is written -/
theorem dn_write {h' : Heap} {t' : Nat} {ys : List (NestedKey × Addr × Value)} (I : Inv X pins σ H s) (d : DN X.w H a xs) (hs : Heap.SameBut a s.heap h') (dd : h'.DictOfH (nestedKind X.prog X.w) a ys) :
    ∃ ep, Inv X pins σ (upd H a (.ext (DRaw X.w a ys ep))) { s with heap := h', toks := t' } := by
  obtain ⟨q, es, ep, hq, h2, h3, h4, _, h5⟩ := dd
  obtain ⟨ep0, e0⟩ := d.at_
  exact ⟨ep, d_write I (by rw [e0]; exact True.intro) hs ⟨q, hq⟩ (draw_ext ⟨q, es, hq, h2, h3, h4⟩)⟩
theorem dn_setItem {r : Value} {Q : Unit → Shared → Prop} (hu : A.units + 9 < cLine) (I : Inv X pins σ H s) (d : DN X.w H a xs) (hk : RepPs X.w X.K m H (keysD xs) (keysV xs)) (kb : RepP X.w X.K m H k.data (.ref b)) (kd : k.depth ≤ 8)
    (h : ∀ ep s', Inv X pins σ (upd H a (.ext (DRaw X.w a (storedH xs k b r) ep))) s' → Q () s') : wpAny (model X.prog X.w) A (setItem (.ref a) (.ref b) r) Q E s :=
  wpAny_setItem_heap (hsz := d.sz) (nk_room hu) ⟨key_is I k _ _ kb rfl, kd⟩ (dn_at I d hk) fun h' dd' hs => let ⟨ep, z⟩ := dn_write I d hs dd'; h ep _ z
end
/-! the rows behind a store -/
section
variable {w : World} {K : PySem.W.Frag} {mg : Str → Option Value} {m : Mm} {H : Hp} {a b : Addr} {k : NestedKey} {xs : List (NestedKey × Addr × Value)} {vs : List V} {v : V} {r : Value}
theorem keysD_map : ∀ (xs : List (NestedKey × Addr × Value)), keysD (xs.map (putAt k r)) = keysD xs ∧ keysV (xs.map (putAt k r)) = keysV xs
  | [] => ⟨rfl, rfl⟩
  | x :: xs => by
    obtain ⟨h1, h2⟩ := keysD_map xs
    simp only [keysD, keysV, List.map_cons, List.cons.injEq] at h1 h2 ⊢
    refine ⟨⟨?_, h1⟩, ?_, h2⟩ <;> (unfold putAt; split <;> rfl)
theorem vals_map (rv : RelV v r) : ∀ {xs : List (NestedKey × Addr × Value)} {vs : List V}, Vals vs (xs.map (·.2.2)) → Vals ((zipN xs vs).map (fun kv => if kv.1 = k then (kv.1, v) else kv) |>.map (·.2)) ((xs.map (putAt k r)).map (·.2.2))
  | [], _, .nil => .nil
  | x :: xs, _, .cons h t => by
    simp only [zipN, List.zipWith_cons_cons, List.map_cons]
    refine .cons ?_ (vals_map rv t)
    unfold putAt
    split
    · exact rv
    · exact h
theorem any_at : ∀ {xs : List (NestedKey × Addr × Value)} {vs : List V}, Vals vs (xs.map (·.2.2)) → ((zipN xs vs).any fun kv => decide (kv.1 = k)) = (atKey xs k).isSome
  | [], _, .nil => rfl
  | x :: xs, _, .cons h t => by
    simp only [zipN, List.zipWith_cons_cons, List.any_cons]
    have ih := any_at t
    unfold zipN at ih
    rw [ih]
    by_cases e : x.1 = k
    · simp [atKey, e]
    · simp [atKey, e]
theorem dn_put {H' : Hp} {ep : Nat} (d : DN w H a xs) (hl : xs.length < sizeLine) (kd : k.depth ≤ 8) (e : H' a = some (.ext (DRaw w a (storedH xs k b r) ep))) : DN w H' a (storedH xs k b r) := by
  refine ⟨d.sys, ?_, ⟨ep, e⟩, ?_, ?_⟩
  · unfold storedH
    split
    · rw [List.length_map]; exact d.sz
    · rw [List.length_append, List.length_singleton]; omega
  · unfold storedH
    split
    · rw [keys_map_putAt]; exact d.nd
    · rename_i hn
      have hn' : atKey xs k = none := by
        cases q : atKey xs k with
        | none => rfl
        | some _ => rw [q] at hn; exact (hn rfl).elim
      simp only [List.map_append, List.map_cons, List.map_nil]
      refine List.nodup_append.mpr ⟨d.nd, by simp, fun x hx y hy e => ?_⟩
      rw [List.mem_singleton] at hy
      subst e; subst hy
      obtain ⟨z, hz, e⟩ := List.mem_map.mp hx
      have : (atKey xs z.1).isSome = true := by
        unfold atKey
        rw [Option.isSome_map, List.find?_isSome]
        exact ⟨z, hz, by simp⟩
      rw [e, hn'] at this
      cases this
  · intro x hx
    unfold storedH at hx
    split at hx
    · obtain ⟨z, hz, rfl⟩ := List.mem_map.mp hx
      unfold putAt
      split <;> exact d.dep z hz
    · rcases List.mem_append.mp hx with hx | hx
      · exact d.dep x hx
      · rw [List.mem_singleton] at hx
        subst hx
        exact kd
theorem rows_put {kvs : List (PyData × D)} {d : D} (rv : RelV v r) (rd : Rep w K mg m H d v) (e1 : keysD xs = kvs.map (·.1)) (e2 : RepPs w K m H (kvs.map (·.1)) (keysV xs)) (e3 : Vals vs (xs.map (·.2.2))) (e4 : RepA w K mg m H (kvs.map (·.2)) vs) (kb : RepP w K m H k.data (.ref b)) :
    keysD (storedH xs k b r) = (dputL nkD kvs k k.data d).map (·.1) ∧ RepPs w K m H ((dputL nkD kvs k k.data d).map (·.1)) (keysV (storedH xs k b r)) ∧
      ∃ vs', Vals vs' ((storedH xs k b r).map (·.2.2)) ∧ RepA w K mg m H ((dputL nkD kvs k k.data d).map (·.2)) vs' := by
  have f1 : (zipN xs vs).map (fun p => p.1.data) = kvs.map (·.1) := (zipN_fst e3).trans e1
  obtain ⟨g1, g2⟩ := put_rep (enc := NestedKey.data) nkD_data (k := k) rd f1 (by rw [zipN_snd e3]; exact e4)
  have ha := any_at (k := k) e3
  have hput : keysD (storedH xs k b r) = (dputL nkD kvs k k.data d).map (·.1) := by
    rw [← g1]
    unfold storedH putK
    rw [ha]
    split
    · rw [(keysD_map xs).1, ← zipN_fst e3, List.map_map]
      refine List.map_congr_left fun p _ => ?_
      simp only [Function.comp]
      split <;> rfl
    · simp only [List.map_append, zipN_fst e3]
      simp [keysD]
  refine ⟨hput, ?_, _, ?_, g2⟩
  · rw [← hput]
    unfold storedH
    split
    · rw [(keysD_map xs).1, (keysD_map xs).2, e1]; exact e2
    · simp only [keysD, keysV, List.map_append, List.map_cons, List.map_nil] at e1 ⊢
      rw [e1]
      exact e2.append (by simp only [RepPs]; exact ⟨_, _, rfl, kb, rfl⟩)
  · unfold storedH putK
    rw [ha]
    split
    · exact vals_map rv e3
    · simp only [List.map_append, zipN_snd e3]
      exact Vals.append e3 (.cons rv .nil)
end
/-! ### what is found -/
/-- what stands at q in a dict of the keys of one kind -/
def lookR (t : Bool) {α : Type} (kvs : List (PyData × α)) (q : PyData) : Option (Option α) := match t with
  | false => (toKey q).map (dfind toKey kvs)
  | true => (tk q).map (dfind nkD kvs)
def dlook (h : Hm) (x : D) (q : PyData) : Option (Option D) := match x with
  | .cell n => (match h[n]? with
    | some (.dct t kvs) => lookR t kvs q
    | _ => none)
  | .p (.dict kvs) => if kvs.all (fun p => (tk p.1).isSome) = true then (lookR true kvs q).map (·.map .p) else if kvs.all (fun p => (toKey p.1).isSome) = true then (lookR false kvs q).map (·.map .p) else none
  | _ => none
section
variable {X : Cx} {m : Mm} {H : Hp} {h : Hm}
theorem lookK_rep {t : Bool} {a : Addr} {kvs : List (PyData × D)} {q : PyData} {u : V} {o : Option D} {vs : List V} (rv : RepA X.w X.K X.mg m H (kvs.map (·.2)) vs)
    (hv : (t = false ∧ ∃ kk : List (Key × V), H a = some (.dK kk) ∧ kk.map (fun p => keyP p.1) = kvs.map (·.1) ∧ kk.map (·.2) = vs) ∨
        t = true ∧ ∃ xs, DN X.w H a xs ∧ keysD xs = kvs.map (·.1) ∧ RepPs X.w X.K m H (kvs.map (·.1)) (keysV xs) ∧ Vals vs (xs.map (·.2.2)))
    (rq : RepP X.w X.K m H q u) (e : lookR t kvs q = some o) : ∃ ov, DG X H a u ov ∧ oRep X.w X.K X.mg m H ov o := by
  rcases hv with ⟨rfl, kk, hv, hk, rfl⟩ | ⟨rfl, xs, dn, e1, e2, e3⟩
  · simp only [lookR, Option.map_eq_some_iff] at e
    obtain ⟨k, ek, rfl⟩ := e
    have := keyP_of ek
    subst this
    have := keyV rq
    subst this
    exact ⟨_, .inl (DGet.k hv), dfind_rep toKey_P k hk rv⟩
  · simp only [lookR, Option.map_eq_some_iff] at e
    obtain ⟨k, ek, rfl⟩ := e
    obtain ⟨b, rfl⟩ := tk_ref ek rq
    obtain ⟨rfl, kd, _⟩ := tk_of ek
    refine ⟨_, .inr ⟨m, xs, vs, k, b, .inl dn, by rw [e1]; exact e2, e3, rfl, rq, kd, rfl⟩, dfind_rep (enc := NestedKey.data) nkD_data k ((zipN_fst e3).trans e1) (by rw [zipN_snd e3]; exact rv)⟩
theorem dlook_rep (S : Sim X.w X.K X.mg m H h) {x : D} {q : PyData} {v u : V} {o : Option D} (rx : Rep X.w X.K X.mg m H x v) (rq : RepP X.w X.K m H q u) (e : dlook h x q = some o) : ∃ a, v = .ref a ∧ ∃ ov, DG X H a u ov ∧ oRep X.w X.K X.mg m H ov o := by
  unfold dlook at e
  split at e
  · rename_i n
    simp only [Rep] at rx
    obtain ⟨a, rfl, ha⟩ := rx
    refine ⟨a, rfl, ?_⟩
    split at e
    · rename_i t kvs e1
      obtain ⟨vs, rv, hv⟩ := S.at_ n a _ ha e1
      exact lookK_rep rv hv rq e
    · cases e
  · rename_i kvs
    simp only [Rep, RepP] at rx
    obtain ⟨a, ks, vs, rfl, ⟨_, f⟩, hk, hv⟩ := rx
    refine ⟨a, rfl, ?_⟩
    have hk := repKs_iff.mp hk
    have hv := repVs_iff.mp hv
    have hv' : RepA X.w X.K X.mg m H ((kvs.map fun p => (p.1, D.p p.2)).map (·.2)) vs := by
      have := repA_map (mg := X.mg) hv
      simpa only [List.map_map, Function.comp_def] using this
    have k1 : (kvs.map fun p => (p.1, D.p p.2)).map (·.1) = kvs.map (·.1) := by simp only [List.map_map, Function.comp_def]
    have conv : ∀ t o', (lookR t kvs q).map (·.map D.p) = some o' → lookR t (kvs.map fun p => (p.1, D.p p.2)) q = some o' := fun t o' z => by
      have fnd : ∀ {κ : Type} [DecidableEq κ] (dec : PyData → Option κ) (k : κ), dfind dec (kvs.map fun p => (p.1, D.p p.2)) k = (dfind dec kvs k).map D.p := fun dec k => by
        unfold dfind
        rw [List.find?_map, Option.map_map, Option.map_map]
        rfl
      cases t with
      | false =>
        simp only [lookR, Option.map_map, Option.map_eq_some_iff] at z ⊢
        obtain ⟨k, z1, z2⟩ := z
        exact ⟨k, z1, by rw [fnd]; exact z2⟩
      | true =>
        simp only [lookR, Option.map_map, Option.map_eq_some_iff] at z ⊢
        obtain ⟨k, z1, z2⟩ := z
        exact ⟨k, z1, by rw [fnd]; exact z2⟩
    split at e
    · rename_i hall
      rcases f with ⟨kk, _, hd, e1, e2⟩ | ⟨xs, dn, e1, e2, e3⟩
      · have hk0 : kvs = [] := by
          cases kvs with
          | nil => rfl
          | cons p r =>
            cases kk with
            | nil => simp at e1
            | cons z zs =>
              simp only [List.map_cons, List.cons.injEq] at e1
              simp only [List.all_cons, Bool.and_eq_true] at hall
              rw [← e1.1] at hall
              cases hz : z.1 with
              | inl i => rw [hz] at hall; exact absurd hall.1 (by simp [keyP, tk])
              | inr i => rw [hz] at hall; exact absurd hall.1 (by simp [keyP, tk])
        subst hk0
        have : kk = [] := by simpa using e1
        subst this
        simp only [lookR, Option.map_map, Option.map_eq_some_iff] at e
        obtain ⟨k, ek, rfl⟩ := e
        obtain ⟨b, rfl⟩ := tk_ref ek rq
        obtain ⟨rfl, kd, _⟩ := tk_of ek
        exact ⟨none, .inr ⟨m, [], [], k, b, .inr ⟨rfl, hd⟩, by simp [keysD, keysV, RepPs], .nil, rfl, rq, kd, rfl⟩, rfl⟩
      · exact lookK_rep (t := true) hv' (.inr ⟨rfl, xs, dn, by rw [k1]; exact e1, by rw [k1, e2]; exact hk, e3⟩) rq (conv _ _ e)
    · split at e
      · rename_i hn hall
        rcases f with ⟨kk, _, hd, e1, e2⟩ | ⟨xs, dn, e1, e2, e3⟩
        · exact lookK_rep (t := false) hv' (.inl ⟨rfl, kk, hd, by rw [k1]; exact e1, e2⟩) rq (conv _ _ e)
        · exfalso
          cases kvs with
          | nil => exact hn rfl
          | cons p r =>
            cases xs with
            | nil => simp [keysD] at e1
            | cons z zs =>
              subst e2
              simp only [List.map_cons, keysV, RepPs] at hk
              obtain ⟨v', _, ev, rp, _⟩ := hk
              obtain ⟨rfl, rfl⟩ := List.cons.inj ev
              simp only [List.all_cons, Bool.and_eq_true] at hall
              cases hp : p.1 with
              | int i => rw [hp] at rp; simp only [RepP] at rp; cases rp
              | str i => rw [hp] at rp; simp only [RepP] at rp; cases rp
              | _ => rw [hp] at hall; exact absurd hall.1 (by simp [toKey])
      · cases e
  · cases e
end
/-! ### the operations -/
def dgetD : D → D → M D
  | x, .p q => fun h => match dlook h x q with
    | some (some d) => .ok d h
    | _ => .bad
  | _, _ => bad
def dinD (neg : Bool) : D → D → M D
  | .p q, x => fun h => match dlook h x q with
    | some o => .ok (.p (.bool (if neg then !o.isSome else o.isSome))) h
    | none => .bad
  | _, _ => bad
def dputD : D → D → D → M D
  | .cell n, .p q, d => fun h => match h[n]? with
    | some (.dct false kvs) => (match toKey q with
      | some k => if kvs.length < sizeLine then .ok (.p .none) (h.set n (.dct false (dputL toKey kvs k q d))) else .bad
      | none => .bad)
    | some (.dct true kvs) => (match tk q with
      | some k => if kvs.length < sizeLine then .ok (.p .none) (h.set n (.dct true (dputL nkD kvs k q d))) else .bad
      | none => .bad)
    | _ => .bad
  | _, _, _ => bad
def sDput (fe fo fi : Ev → M D) : Ev → M Fl := fun μ => bnd (fe μ) fun d => bnd (fo μ) fun x => bnd (fi μ) fun i => bnd (dputD x i d) fun _ => ret (.nx μ)
def getD_ (x y dflt : D) : M D := match y with
  | .p q => fun h => match dlook h x q with
    | some o => .ok (o.getD dflt) h
    | none => .bad
  | _ => bad
def getE (fo fk : Ev → M D) : Ev → M D := fun μ => bnd (fo μ) fun x => bnd (tyOk "dict" x) fun _ => bnd (fk μ) fun y => getD_ x y (.p .none)
def getE2 (fo fk fd : Ev → M D) : Ev → M D := fun μ => bnd (fo μ) fun x => bnd (tyOk "dict" x) fun _ => bnd (fk μ) fun y => bnd (fd μ) fun z => getD_ x y z
theorem room9 {k : Nat} {A : Around} (hr : Room k A) : A.units + 9 < cLine := by have := hr.units; omega
section
variable {X : Cx} {W : XK} {k : Nat} {o i e f : Expr} {pos p1 apos cpos : Pos} {fo fi fe fk fd : Ev → M D}
theorem es_dget (hr : Room k X.A) (ho : ES X W o fo) (hi : ES X W i fi) (hs : NoSl i := by intro _ _; rfl) : ES X W (.Subscript o i pos) (bin dgetD fo fi) := by
  refine ⟨fun pins s σ H Q I ⟨μ, m, h, S, V, hp⟩ => ?_⟩
  refine subD_of PySem.F.slot_dict_getitem.lookup hs (thn (ho.run pins s σ H (fun v H1 => rdE (tx X W) fi σ H1 fun u H2 => ∃ a w, v = .ref a ∧ DG X H2 a u (some w) ∧ Q w H2) I ⟨μ, m, h, S, V, Post.bnd hp fun x h1 m1 H1 v _ S1 X1 r1 hp1 => ?_⟩)
    fun u s1 ⟨x, H1, I1, rx, q1⟩ => thn (hi.run pins s1 σ H1 _ I1 q1) fun iv s2 ⟨y, H2, I2, ry, a, v, ex, g, q2⟩ => ?_)
  · refine ⟨μ, m1, h1, S1, V.mono X1, Post.bnd hp1 fun y h2 m2 H2 u _ S2 X2 r2 hp2 => ?_⟩
    cases y with
    | p q =>
      simp only [dgetD] at hp2
      cases el : dlook h2 x q with
      | none => rw [el] at hp2; exact hp2.elim
      | some od =>
        rw [el] at hp2
        cases od with
        | none => exact hp2.elim
        | some d =>
          simp only [Rep] at r2
          obtain ⟨a, rfl, ov, g, w, rfl, rw'⟩ := dlook_rep S2 (r1.mono X2) r2 el
          exact ⟨a, w, rfl, g, hp2 m2 H2 _ S2 Ext.refl rw'⟩
    | _ => exact hp2.elim
  · subst ex
    obtain rfl : u = Value.ref a := rx
    exact ⟨dg_typeIs I2 g, dg_getItem (room9 hr) I2 g ry fun w' s3 I3 rw' => ⟨v, H2, I3, rw', q2⟩⟩
theorem o_dinG (hr : Room k X.A) : Op2 X W (compareOp .In) (dinD false) := by
  intro pins s σ H x y v u Q I rx ry h
  obtain ⟨m, h0, d, e, S, r1, r2, hp⟩ := h
  cases d with
  | p q =>
    simp only [dinD] at hp
    cases el : dlook h0 e q with
    | none => rw [el] at hp; exact hp.elim
    | some od =>
      rw [el] at hp
      simp only [Rep] at r1
      obtain ⟨a, rfl, ov, g, gv⟩ := dlook_rep S r2 r1 el
      cases ry
      refine dg_in (room9 hr) I g rx fun s3 I3 => ⟨.bl ov.isSome, H, I3, rfl, ?_⟩
      have : ov.isSome = od.isSome := by
        cases od with
        | none => simp only [oRep] at gv; rw [gv]; rfl
        | some d => obtain ⟨w, rfl, _⟩ := gv; rfl
      rw [this]
      exact hp m H _ S Ext.refl (by simp [Rep, RepP])
  | _ => exact hp.elim
theorem o_dnotinG (hr : Room k X.A) : Op2 X W (compareOp .NotIn) (dinD true) := by
  intro pins s σ H x y v u Q I rx ry h
  obtain ⟨m, h0, d, e, S, r1, r2, hp⟩ := h
  cases d with
  | p q =>
    simp only [dinD] at hp
    cases el : dlook h0 e q with
    | none => rw [el] at hp; exact hp.elim
    | some od =>
      rw [el] at hp
      simp only [Rep] at r1
      obtain ⟨a, rfl, ov, g, gv⟩ := dlook_rep S r2 r1 el
      cases ry
      refine dg_notIn (room9 hr) I g rx fun s3 I3 => ⟨.bl (!ov.isSome), H, I3, rfl, ?_⟩
      have : ov.isSome = od.isSome := by
        cases od with
        | none => simp only [oRep] at gv; rw [gv]; rfl
        | some d => obtain ⟨w, rfl, _⟩ := gv; rfl
      rw [this]
      exact hp m H _ S Ext.refl (by simp [Rep, RepP])
  | _ => exact hp.elim
theorem o_din (hr : Room k X.A) : Op2 X W (compareOp .In) (dinD false) := o_dinG hr
theorem o_dnotin (hr : Room k X.A) : Op2 X W (compareOp .NotIn) (dinD true) := o_dnotinG hr
/-- a dict, before its key is asked for -/
theorem tyOk_post {T : Tx} {α : Type} {m : Mm} {H : Hp} {h : Hm} {x : D} {β : Type} {rel : Mm → Hp → α → β → Prop} {g : Unit → M α} {Q : β → Hp → Prop} {ty : String} (hp : Post T m H rel (bnd (tyOk ty x) g h) Q) : isTyD ty h x = true ∧ Post T m H rel (g () h) Q := by
  unfold bnd tyOk at hp
  by_cases q : isTyD ty h x = true
  · rw [if_pos q] at hp; exact ⟨q, hp⟩
  · rw [if_neg q] at hp; exact hp.elim
theorem getD_of {m : Mm} {H : Hp} {h : Hm} {x y z : D} {v u w : V} {Q : VK} (S : Sim X.w X.K X.mg m H h) (rx : Rep X.w X.K X.mg m H x v) (ry : Rep X.w X.K X.mg m H y u) (rz : Rep X.w X.K X.mg m H z w) (hp : Post (tx X W) m H (Rep X.w X.K X.mg) (getD_ x y z h) Q) :
    ∃ a, v = .ref a ∧ ∃ o, DG X H a u o ∧ Q (o.getD w) H := by
  cases y with
  | p q =>
    simp only [getD_] at hp
    cases el : dlook h x q with
    | none => rw [el] at hp; exact hp.elim
    | some od =>
      rw [el] at hp
      simp only [Rep] at ry
      obtain ⟨a, rfl, ov, g, gv⟩ := dlook_rep S rx ry el
      refine ⟨a, rfl, ov, g, ?_⟩
      cases od with
      | none => simp only [oRep] at gv; subst gv; exact hp m H _ S Ext.refl rz
      | some d => obtain ⟨v, rfl, rd⟩ := gv; exact hp m H _ S Ext.refl rd
  | _ => exact hp.elim
theorem es_get1 (hr : Room k X.A) (ho : ES X W o fo) (he : ES X W e fk) (m : M1 X o "get" apos e cpos := by exact ⟨rfl, rfl, rfl, rfl⟩) : ES X W (.Call (.Attribute o "get" apos) [e] [] cpos) (getE fo fk) := by
  refine ⟨fun pins s σ H Q I ⟨μ, mm, h, S, V, hp⟩ => ?_⟩
  refine wpAny_Call_method_late m.base m.few m.line rfl (thn (ho.run pins s σ H (fun v H1 => tyW X "dict" v H1 ∧ rdE (tx X W) fk σ H1 fun u H2 => ∃ a, v = .ref a ∧ ∃ o, DG X H2 a u o ∧ Q (o.getD .non) H2) I ⟨μ, mm, h, S, V, Post.bnd hp fun x h1 m1 H1 v _ S1 X1 r1 hp1 => ?_⟩)
    fun u s1 ⟨x, H1, I1, rx, ty, q1⟩ => ?_)
  · obtain ⟨q, hp1⟩ := tyOk_post hp1
    exact ⟨tyV_of S1 r1 q, μ, m1, h1, S1, V.mono X1, Post.bnd hp1 fun y h2 m2 H2 u _ S2 X2 r2 hp2 => getD_of S2 (r1.mono X2) r2 (by simp [Rep, RepP]) hp2⟩
  · obtain ⟨h1, h2⟩ := tyW_is I1 rx ty
    refine ⟨"dict", _, PySem.F.plainAttrs_dict, PySem.F.slot_dict_get, PySem.F.type_dict_get, h1, h2, ?_⟩
    rw [m.trees]
    refine Calls.callWith_builtin rfl (Calls.evalArgs_plain (Calls.spliced_cons (thn (he.run pins s1 σ H1 _ I1 q1) fun iv s2 ⟨y, H2, I2, ry, a, ex, ov, g, q2⟩ => Calls.spliced_nil ?_)))
    subst ex
    obtain rfl : u = Value.ref a := rx
    exact dg_get1 (room9 hr) I2 g ry fun w' s3 I3 rw' => ⟨_, H2, I3, rw', q2⟩
theorem es_get2 (hr : Room k X.A) (ho : ES X W o fo) (he : ES X W e fk) (hf : ES X W f fd) (m : M2 X o "get" apos e f cpos := by exact ⟨rfl, rfl, rfl, rfl⟩) : ES X W (.Call (.Attribute o "get" apos) [e, f] [] cpos) (getE2 fo fk fd) := by
  refine ⟨fun pins s σ H Q I ⟨μ, mm, h, S, V, hp⟩ => ?_⟩
  refine wpAny_Call_method_late m.base m.few m.line rfl (thn (ho.run pins s σ H (fun v H1 => tyW X "dict" v H1 ∧ rdE (tx X W) fk σ H1 fun u H2 => rdE (tx X W) fd σ H2 fun w H3 => ∃ a, v = .ref a ∧ ∃ o, DG X H3 a u o ∧ Q (o.getD w) H3) I ⟨μ, mm, h, S, V, Post.bnd hp fun x h1 m1 H1 v _ S1 X1 r1 hp1 => ?_⟩)
    fun u s1 ⟨x, H1, I1, rx, ty, q1⟩ => ?_)
  · obtain ⟨q, hp1⟩ := tyOk_post hp1
    refine ⟨tyV_of S1 r1 q, μ, m1, h1, S1, V.mono X1, Post.bnd hp1 fun y h2 m2 H2 u _ S2 X2 r2 hp2 => ?_⟩
    exact ⟨μ, m2, h2, S2, (V.mono X1).mono X2, Post.bnd hp2 fun z h3 m3 H3 w _ S3 X3 r3 hp3 => getD_of S3 ((r1.mono X2).mono X3) (r2.mono X3) r3 hp3⟩
  · obtain ⟨h1, h2⟩ := tyW_is I1 rx ty
    refine ⟨"dict", _, PySem.F.plainAttrs_dict, PySem.F.slot_dict_get, PySem.F.type_dict_get, h1, h2, ?_⟩
    rw [m.trees]
    refine Calls.callWith_builtin rfl (Calls.evalArgs_plain (Calls.spliced_cons (thn (he.run pins s1 σ H1 _ I1 q1) fun iv s2 ⟨y, H2, I2, ry, q2⟩ =>
      Calls.spliced_cons (thn (hf.run pins s2 σ H2 _ I2 q2) fun fv s3 ⟨z, H3, I3, rz, a, ex, ov, g, q3⟩ => Calls.spliced_nil ?_))))
    subst ex
    obtain rfl : u = Value.ref a := rx
    exact dg_get2 (room9 hr) I3 g ry rz fun w' s4 I4 rw' => ⟨_, H3, I4, rw', q3⟩
/-- d[k] = v -/
theorem ss_dput (hr : Room k X.A) (he : ES X W e fe) (ho : ES X W o fo) (hi : ES X W i fi) (hs : swapsWith e (some (.Subscript o i p1)) pos.line X.env = pure false := by rfl) : SS X W (.Assign [.Subscript o i p1] e pos) (sDput fe fo fi) := by
  refine ⟨fun pins s σ H E I ⟨μ, m, h, S, V, hp⟩ => ?_⟩
  refine wpAny_Assign_Subscript (thn (he.run pins s σ H (fun v H1 => rdE (tx X W) fo σ H1 fun x H2 => rdE (tx X W) fi σ H2 fun y H3 => ∃ m3 h3 d dx dy, Sim X.w X.K X.mg m3 H3 h3 ∧ EnvR X.w X.K X.mg m3 H3 μ σ ∧ Rep X.w X.K X.mg m3 H3 d v ∧ Rep X.w X.K X.mg m3 H3 dx x ∧ Rep X.w X.K X.mg m3 H3 dy y ∧
      PostS (tx X W) m3 H3 (bnd (dputD dx dy d) (fun _ => ret (.nx μ)) h3) E) I ⟨μ, m, h, S, V, PostS.bnd hp fun d h1 m1 H1 v _ S1 X1 r1 hp1 => ?_⟩)
    fun r s1 ⟨v, H1, I1, rv, q1⟩ => thn (ho.run pins s1 σ H1 _ I1 q1) fun u s2 ⟨x, H2, I2, rx, q2⟩ => thn (hi.run pins s2 σ H2 _ I2 q2) fun iv s3 ⟨y, H3, I3, ry, q3⟩ => ?_) hs
  · refine ⟨μ, m1, h1, S1, V.mono X1, PostS.bnd hp1 fun x h2 m2 H2 ov _ S2 X2 r2 hp2 => ?_⟩
    exact ⟨μ, m2, h2, S2, (V.mono X1).mono X2, PostS.bnd hp2 fun y h3 m3 H3 iv _ S3 X3 r3 hp3 => ⟨m3, h3, d, x, y, S3, ((V.mono X1).mono X2).mono X3, (r1.mono X2).mono X3, r2.mono X3, r3, hp3⟩⟩
  · obtain ⟨m3, h3, d, dx, dy, S3, V3, rd, rdx, rdy, hp3⟩ := q3
    cases dx with
    | cell n =>
     cases dy with
     | p q =>
      simp only [dputD] at hp3
      simp only [Rep] at rdx rdy
      obtain ⟨a, rfl, ha⟩ := rdx
      obtain rfl : u = Value.ref a := rx
      cases el : h3[n]? with
      | none => simp only [bnd, el] at hp3; exact hp3.elim
      | some c =>
        have cr := S3.at_ n a c ha el
        cases c with
        | lst xs => simp only [bnd, el] at hp3; exact hp3.elim
        | obj cls fs => simp only [bnd, el] at hp3; exact hp3.elim
        | dct t kvs =>
          obtain ⟨vs, rv', hv⟩ := cr
          cases t with
          | false =>
            cases ek : toKey q with
            | none => simp only [bnd, el, ek] at hp3; exact hp3.elim
            | some k =>
              by_cases hz : kvs.length < sizeLine
              · simp only [bnd, el, ek, if_pos hz] at hp3
                have := keyP_of ek
                subst this
                have := keyV rdy
                subst this
                rcases hv with ⟨_, kk, hv, hk, rfl⟩ | ⟨z, _⟩
                · obtain ⟨g1, g2⟩ := put_rep toKey_P (k := k) rd hk rv'
                  have X4 : Ext m3 H3 m3 (upd H3 a (.dK (putK kk k v))) := Ext.write ha
                  have hl : kk.length < sizeLine := by
                    have := congrArg List.length hk
                    simp only [List.length_map] at this
                    omega
                  refine d_setItem (by have := hr.un; omega) I3 (DPut.k hv hl) ry rv fun s4 I4 => ⟨σ, _, I4, ?_⟩
                  exact (show ∀ m' H' σ', Sim X.w X.K X.mg m' H' _ → Ext m3 H3 m' H' → EnvR X.w X.K X.mg m' H' μ σ' → E.nx σ' H' from hp3) m3 _ σ (S3.write ha ⟨_, g2.mono X4, .inl ⟨rfl, _, upd_same, g1, rfl⟩⟩) X4 (V3.mono X4)
                · cases z
              · simp only [bnd, el, ek, if_neg hz] at hp3; exact hp3.elim
          | true =>
            cases ek : tk q with
            | none => simp only [bnd, el, ek] at hp3; exact hp3.elim
            | some k =>
              by_cases hz : kvs.length < sizeLine
              · simp only [bnd, el, ek, if_pos hz] at hp3
                rcases hv with ⟨z, _⟩ | ⟨_, xs, dn, e1, e2, e3⟩
                · cases z
                · obtain ⟨b, rfl⟩ := tk_ref ek rdy
                  obtain ⟨rfl, kd, _⟩ := tk_of ek
                  cases ry
                  obtain ⟨f1, f2, vs', f3, f4⟩ := rows_put (k := k) rv rd e1 e2 e3 rv' rdy
                  have hl : xs.length < sizeLine := by
                    have := congrArg List.length e1
                    simp only [List.length_map, keysD] at this
                    omega
                  refine dn_setItem (room9 hr) I3 dn (by rw [e1]; exact e2) rdy kd fun ep s4 I4 => ⟨σ, _, I4, ?_⟩
                  have X4 : Ext m3 H3 m3 (upd H3 a (.ext (DRaw X.w a (storedH xs k b r) ep))) := Ext.write ha
                  exact (show ∀ m' H' σ', Sim X.w X.K X.mg m' H' _ → Ext m3 H3 m' H' → EnvR X.w X.K X.mg m' H' μ σ' → E.nx σ' H' from hp3) m3 _ σ (S3.write ha ⟨vs', f4.mono X4, .inr ⟨rfl, _, dn_put dn hl kd upd_same, f1, RepPs.mono X4 f2, f3⟩⟩) X4 (V3.mono X4)
              · simp only [bnd, el, ek, if_neg hz] at hp3; exact hp3.elim
     | _ => exact (show False from hp3).elim
    | _ => exact (show False from hp3).elim
end
end MP
/-! MP14: zip and enumerate of what may be walked; sum. -/
namespace MP
open PySem PySem.Spec PyProof.Rows L2
section
open Sem (wp)
variable {prog : Program} {w : World} {A : Around} {E : Value → Shared → Prop} {s : Shared}
/-- an iterator of a tuple or of a list, and what it goes over -/
def ItAt (t : Bool) (h : Heap) (it l : Addr) (k : Nat) : Prop := cond t (h.IsTupleIter it l k) (h.IsListIter it l k)
def SqAt (t : Bool) (h : Heap) (l : Addr) (xs : Array Value) : Prop := cond t (h.IsTuple l xs) (h.IsList l xs)
def itCls (t : Bool) : String := cond t "tuple_iterator" "list_iterator"
theorem ItAt.ext {t : Bool} {h h' : Heap} {it l c : Addr} {k : Nat} (i : ItAt t h it l k) (e : Heap.ExtBut c h h') (n : it ≠ c) : ItAt t h' it l k := by
  cases t with
  | true => exact Heap.IsTupleIter.extBut (show h.IsTupleIter it l k from i) e n
  | false => exact Heap.IsListIter.extBut (show h.IsListIter it l k from i) e n
theorem SqAt.ext {t : Bool} {h h' : Heap} {l c : Addr} {xs : Array Value} (i : SqAt t h l xs) (e : Heap.ExtBut c h h') (n : l ≠ c) : SqAt t h' l xs := by
  cases t with
  | true => exact Heap.IsTuple.extBut (show h.IsTuple l xs from i) e n
  | false => exact Heap.IsList.extBut (show h.IsList l xs from i) e n
theorem ItAt.at_ {t : Bool} {h h' : Heap} {it l : Addr} {k : Nat} (i : ItAt t h it l k) (e : ∀ o, h.get? it = some o → h'.get? it = some o) : ItAt t h' it l k := by
  cases t with
  | true => exact Heap.IsTupleIter.at (show h.IsTupleIter it l k from i) e
  | false => exact Heap.IsListIter.at (show h.IsListIter it l k from i) e
theorem ItAt.obj {t : Bool} {h : Heap} {it l : Addr} {k : Nat} (i : ItAt t h it l k) : ∃ o vs, h.get? it = some o ∧ o.data = .fields vs := by
  cases t with
  | true => obtain ⟨o, a, _, b⟩ := (show h.IsTupleIter it l k from i); exact ⟨o, _, a, b⟩
  | false => obtain ⟨o, a, _, b⟩ := (show h.IsListIter it l k from i); exact ⟨o, _, a, b⟩
theorem ItAt.mk_ {t : Bool} {h : Heap} {it l : Addr} (e : h.get? it = some { cls := .type (itCls t), data := .fields #[.ref l, .int 0 0] }) : ItAt t h it l 0 := by
  cases t with
  | true => exact ⟨_, e, rfl, rfl⟩
  | false => exact ⟨_, e, rfl, rfl⟩
theorem SqAt.push_ {t : Bool} {h : Heap} {l : Addr} {xs : Array Value} (i : SqAt t h l xs) (o : Obj) : SqAt t (h.push o) l xs := by
  cases t with
  | true => exact Heap.IsTuple.push (show h.IsTuple l xs from i) o
  | false => exact Heap.IsList.push (show h.IsList l xs from i) o
theorem SqAt.lt_ {t : Bool} {h : Heap} {l : Addr} {xs : Array Value} (i : SqAt t h l xs) : l < h.objs.size := by
  cases t with
  | true => obtain ⟨o, e, _⟩ := (show h.IsTuple l xs from i); exact Heap.lt_size e
  | false => obtain ⟨o, e, _⟩ := (show h.IsList l xs from i); exact Heap.lt_size e
theorem draw_item {t : Bool} {it l : Addr} {i : Nat} {xs : Array Value} {x : Value} {Q : Value → Shared → Prop} (hit : ItAt t s.heap it l i) (hl : SqAt t s.heap l xs) (hx : xs[i]? = some x)
    (q : ∀ h', ItAt t h' it l (i + 1) → Heap.SameBut it s.heap h' → Q x { s with heap := h' }) : wpAny (model prog w) A (Builtin.SmallTypes.nextOf (.ref it)) Q E s := by
  cases t with
  | true => exact RZ.nextOf_tuple_item hit hl hx q
  | false => exact wpAny_nextOf_list_item hit hl hx q
theorem draw_end {t : Bool} {it l : Addr} {i : Nat} {xs : Array Value} {Q : Value → Shared → Prop} (hh : A.handled = none) (hit : ItAt t s.heap it l i) (hl : SqAt t s.heap l xs) (hx : xs[i]? = none)
    (q : ∀ h' e, Heap.ExtBut it s.heap h' → (∃ o, h'.get? e = some o ∧ o.cls = .type "StopIteration") → E (.ref e) { s with heap := h' }) : wpAny (model prog w) A (Builtin.SmallTypes.nextOf (.ref it)) Q E s := by
  cases t with
  | true => exact RZ.nextOf_tuple_end hh hit hl hx q
  | false => exact wpAny_nextOf_list_end hh hit hl hx q
/-- all that is known of a zip's objects -/
structure ZAt (t u : Bool) (h : Heap) (z p q i1 i2 l1 l2 : Addr) (f0 a b : Value) (k1 k2 : Nat) : Prop where
  hz : IsZip h z p q f0
  hp : IsPair h p (.ref i1) (.ref i2)
  hq : IsPair h q a b
  h1 : ItAt t h i1 l1 k1
  h2 : ItAt u h i2 l2 k2
theorem zip_item {t u : Bool} {z p q i1 i2 l1 l2 : Addr} {k1 k2 : Nat} {xs ys : Array Value} {x y a b : Value} {Q : Value → Shared → Prop} (D : ZipApart z p q i1 i2 l1 l2) (Z : ZAt t u s.heap z p q i1 i2 l1 l2 .none a b k1 k2)
    (hl1 : SqAt t s.heap l1 xs) (hl2 : SqAt u s.heap l2 ys) (hx : xs[k1]? = some x) (hy : ys[k2]? = some y)
    (hQ : ∀ h', ZAt t u h' z p q i1 i2 l1 l2 (rawInt s.heap.objs.size) x y (k1 + 1) (k2 + 1) → IsPair h' s.heap.objs.size x y → h'.objs.size = s.heap.objs.size + 1 →
      (∀ c o, c ≠ z → c ≠ q → c ≠ i1 → c ≠ i2 → s.heap.get? c = some o → h'.get? c = some o) → Q (.ref s.heap.objs.size) { s with heap := h' }) :
    wpAny (model prog w) A (Builtin.«zip.__next__» ⟨[.ref z], []⟩) (fun fin s' => ∃ v, fin = .done (.ret v) ∧ Q v s') E s := by
  obtain ⟨hz, hp, hq, h1, h2⟩ := Z
  show wpAny _ _ (field (.ref z) 2 >>= _) _ _ _
  refine wpAny_bind (wpAny_field hz rfl (x := .bool false) rfl ?_)
  show wpAny _ _ (field (.ref z) 3 >>= _) _ _ _
  refine wpAny_bind (wpAny_field hz rfl (x := .ref p) rfl ?_)
  refine wpAny_bind (wpAny_seqItems hp rfl ?_)
  show wpAny _ _ (Builtin.SmallTypes.ownedTupleIsFree (.ref z) >>= _) _ _ _
  refine wpAny_bind ?_
  unfold Builtin.SmallTypes.ownedTupleIsFree
  refine wpAny_bind (wpAny_field hz rfl (x := .none) rfl (wpAny_pure ?_))
  simp only [if_true]
  refine wpAny_bind (wpAny_rule (wpAny_bind (wpAny_field hz rfl (x := .ref q) rfl ?_)))
  refine wpAny_bind (wpAny_setField_rec hz (by simp) fun g1 z1 b1 => ?_)
  replace z1 : IsZip g1 z p q .ellipsis := z1
  refine wpAny_bind ?_
  simp only [List.zipIdx_cons, List.zipIdx_nil, List.forIn_cons, List.forIn_nil]
  -- the first one
  refine wpAny_bind (wpAny_bind (wpAny_onRaise ?_))
  show wpAny _ _ (Builtin.SmallTypes.nextOf (.ref i1) >>= _) _ _ _
  refine wpAny_bind (draw_item (h1.ext b1.extBut D.i1z) (hl1.ext b1.extBut D.l1z) hx fun g2 n1 b2 => wpAny_pure ?_)
  have q2 : IsPair g2 q a b := b2.extBut _ _ D.TOi1 (b1.extBut _ _ D.TOz hq)
  refine wpAny_bind (wpAny_seqItems q2 rfl (wpAny_bind (wpAny_updateSeq_pair q2 fun g3 q3 b3 => ?_)))
  replace q3 : IsPair g3 q x b := q3
  refine wpAny_bind (wpAny_letGo (wpAny_pure ?_))
  -- the second one
  refine wpAny_bind (wpAny_bind (wpAny_onRaise ?_))
  show wpAny _ _ (Builtin.SmallTypes.nextOf (.ref i2) >>= _) _ _ _
  refine wpAny_bind (draw_item (((h2.ext b1.extBut D.i2z).ext b2.extBut D.i12.symm).ext b3.extBut D.TOi2.symm) (((hl2.ext b1.extBut D.l2z).ext b2.extBut D.l2i1).ext b3.extBut D.l2TO) hy fun g4 n2 b4 => wpAny_pure ?_)
  have q4 : IsPair g4 q x b := b4.extBut _ _ D.TOi2 q3
  refine wpAny_bind (wpAny_seqItems q4 rfl (wpAny_bind (wpAny_updateSeq_pair q4 fun g5 q5 b5 => ?_)))
  replace q5 : IsPair g5 q x y := q5
  refine wpAny_bind (wpAny_letGo (wpAny_pure (wpAny_pure ?_)))
  -- the pair handed out
  refine wpAny_bind (wpAny_seqItems q5 rfl (wpAny_bind (wpAny_newTuple ?_)))
  have e5 : g5.objs.size = s.heap.objs.size := by rw [b5.1, b4.1, b3.1, b2.1, b1.1]
  have z5 : IsZip g5 z p q .ellipsis := b5.extBut _ _ D.TOz.symm (b4.extBut _ _ D.i2z.symm (b3.extBut _ _ D.TOz.symm (b2.extBut _ _ D.i1z.symm z1)))
  have up5 : ∀ c o, c ≠ z → c ≠ q → c ≠ i1 → c ≠ i2 → s.heap.get? c = some o → g5.get? c = some o := fun c o c1 c2 c3 c4 e => b5.extBut _ _ c2 (b4.extBut _ _ c4 (b3.extBut _ _ c2 (b2.extBut _ _ c3 (b1.extBut _ _ c1 e))))
  have n1' : ItAt t g5 i1 l1 (k1 + 1) := ((n1.ext b3.extBut D.TOi1.symm).ext b4.extBut D.i12).ext b5.extBut D.TOi1.symm
  have n2' : ItAt u g5 i2 l2 (k2 + 1) := n2.ext b5.extBut D.TOi2.symm
  have lz : z < g5.objs.size := Heap.lt_size z5
  show wpAny _ _ (Builtin.SmallTypes.ownedTupleHandOut (.ref z) (.ref g5.objs.size) >>= _) _ _ _
  refine wpAny_bind ?_
  unfold Builtin.SmallTypes.ownedTupleHandOut
  have z6 : IsZip (g5.push { cls := .type "tuple", data := .seq #[x, y] }) z p q .ellipsis := Heap.get?_push_of_some _ z5
  refine wpAny_bind (wpAny_setField_rec z6 (by simp) fun g7 z7 b7 => ?_)
  replace z7 : IsZip g7 z p q (rawInt g5.objs.size) := z7
  refine wpAny_setField_rec z7 (by simp) fun g8 z8 b8 => ?_
  replace z8 : IsZip g8 z p q (rawInt g5.objs.size) := z8
  have up8 : ∀ c o, c ≠ z → g5.get? c = some o → g8.get? c = some o := fun c o c1 e => b8.extBut _ _ c1 (b7.extBut _ _ c1 (Heap.get?_push_of_some _ e))
  have T8 : IsPair g8 g5.objs.size x y := b8.extBut _ _ (Nat.ne_of_gt lz) (b7.extBut _ _ (Nat.ne_of_gt lz) (Heap.get?_push_size _ rfl))
  have e8 : g8.objs.size = g5.objs.size + 1 := by rw [b8.1, b7.1, Heap.size_push]
  rw [e5] at z8 T8 e8
  refine wpAny_pure ⟨_, rfl, ?_⟩
  show Q (.ref g5.objs.size) _
  rw [e5]
  exact hQ g8 ⟨z8, up8 _ _ D.TIz (up5 _ _ D.TIz D.TITO D.TIi1 D.TIi2 hp), up8 _ _ D.TOz q5, n1'.at_ fun o e => up8 _ o D.i1z e, n2'.at_ fun o e => up8 _ o D.i2z e⟩ T8 e8 fun c o c1 c2 c3 c4 e => up8 c o c1 (up5 c o c1 c2 c3 c4 e)
theorem zip_stop {t u : Bool} {z p q i1 i2 l1 l2 : Addr} {k1 k2 : Nat} {xs ys : Array Value} {a b : Value} {Q : Fin → Shared → Prop} (hh : A.handled = none) (D : ZipApart z p q i1 i2 l1 l2) (Z : ZAt t u s.heap z p q i1 i2 l1 l2 .none a b k1 k2)
    (hl1 : SqAt t s.heap l1 xs) (hl2 : SqAt u s.heap l2 ys) (hend : xs[k1]? = none ∨ ys[k2]? = none)
    (hE : ∀ h' e, (∀ c o, c ≠ z → c ≠ q → c ≠ i1 → c ≠ i2 → s.heap.get? c = some o → h'.get? c = some o) → (∃ o, h'.get? e = some o ∧ o.cls = .type "StopIteration") → E (.ref e) { s with heap := h' }) :
    wpAny (model prog w) A (Builtin.«zip.__next__» ⟨[.ref z], []⟩) Q E s := by
  obtain ⟨hz, hp, hq, h1, h2⟩ := Z
  show wpAny _ _ (field (.ref z) 2 >>= _) _ _ _
  refine wpAny_bind (wpAny_field hz rfl (x := .bool false) rfl ?_)
  show wpAny _ _ (field (.ref z) 3 >>= _) _ _ _
  refine wpAny_bind (wpAny_field hz rfl (x := .ref p) rfl ?_)
  refine wpAny_bind (wpAny_seqItems hp rfl ?_)
  show wpAny _ _ (Builtin.SmallTypes.ownedTupleIsFree (.ref z) >>= _) _ _ _
  refine wpAny_bind ?_
  unfold Builtin.SmallTypes.ownedTupleIsFree
  refine wpAny_bind (wpAny_field hz rfl (x := .none) rfl (wpAny_pure ?_))
  simp only [if_true]
  refine wpAny_bind (wpAny_rule (wpAny_bind (wpAny_field hz rfl (x := .ref q) rfl ?_)))
  refine wpAny_bind (wpAny_setField_rec hz (by simp) fun g1 z1 b1 => ?_)
  replace z1 : IsZip g1 z p q .ellipsis := z1
  refine wpAny_bind ?_
  simp only [List.zipIdx_cons, List.zipIdx_nil, List.forIn_cons, List.forIn_nil]
  refine wpAny_bind (wpAny_bind (wpAny_onRaise ?_))
  show wpAny _ _ (Builtin.SmallTypes.nextOf (.ref i1) >>= _) _ _ _
  cases hx : xs[k1]? with
  | none =>
    refine wpAny_bind (draw_end hh (h1.ext b1.extBut D.i1z) (hl1.ext b1.extBut D.l1z) hx fun g2 e b2 ⟨oe, he1, he2⟩ => ?_)
    have z2 : IsZip g2 z p q .ellipsis := b2 _ _ D.i1z.symm z1
    have nez : e ≠ z := fun r => by subst r; rw [z2] at he1; cases he1; simp at he2
    exact wpAny_setField_rec z2 (by simp) fun g3 _ b3 => hE g3 e (fun c o c1 _ c3 _ r => b3.extBut _ _ c1 (b2 _ _ c3 (b1.extBut _ _ c1 r))) ⟨oe, b3.extBut _ _ nez he1, he2⟩
  | some x =>
    have hy : ys[k2]? = none := hend.resolve_left fun r => by rw [hx] at r; cases r
    refine wpAny_bind (draw_item (h1.ext b1.extBut D.i1z) (hl1.ext b1.extBut D.l1z) hx fun g2 n1 b2 => wpAny_pure ?_)
    have q2 : IsPair g2 q a b := b2.extBut _ _ D.TOi1 (b1.extBut _ _ D.TOz hq)
    refine wpAny_bind (wpAny_seqItems q2 rfl (wpAny_bind (wpAny_updateSeq_pair q2 fun g3 q3 b3 => ?_)))
    refine wpAny_bind (wpAny_letGo (wpAny_pure ?_))
    refine wpAny_bind (wpAny_bind (wpAny_onRaise ?_))
    show wpAny _ _ (Builtin.SmallTypes.nextOf (.ref i2) >>= _) _ _ _
    refine wpAny_bind (draw_end hh (((h2.ext b1.extBut D.i2z).ext b2.extBut D.i12.symm).ext b3.extBut D.TOi2.symm) (((hl2.ext b1.extBut D.l2z).ext b2.extBut D.l2i1).ext b3.extBut D.l2TO) hy fun g4 e b4 ⟨oe, he1, he2⟩ => ?_)
    have z4 : IsZip g4 z p q .ellipsis := b4 _ _ D.i2z.symm (b3.extBut _ _ D.TOz.symm (b2.extBut _ _ D.i1z.symm z1))
    have nez : e ≠ z := fun r => by subst r; rw [z4] at he1; cases he1; simp at he2
    exact wpAny_setField_rec z4 (by simp) fun g5 _ b5 => hE g5 e (fun c o c1 c2 c3 c4 r => b5.extBut _ _ c1 (b4 _ _ c4 (b3.extBut _ _ c2 (b2.extBut _ _ c3 (b1.extBut _ _ c1 r))))) ⟨oe, b5.extBut _ _ nez he1, he2⟩
theorem zip_next_item' {t u : Bool} {z p q i1 i2 l1 l2 : Addr} {k1 k2 : Nat} {xs ys : Array Value} {x y a b : Value} {Q : Option Value → Shared → Prop} (D : ZipApart z p q i1 i2 l1 l2) (Z : ZAt t u s.heap z p q i1 i2 l1 l2 .none a b k1 k2)
    (hl1 : SqAt t s.heap l1 xs) (hl2 : SqAt u s.heap l2 ys) (hx : xs[k1]? = some x) (hy : ys[k2]? = some y)
    (hQ : ∀ h', ZAt t u h' z p q i1 i2 l1 l2 (rawInt s.heap.objs.size) x y (k1 + 1) (k2 + 1) → IsPair h' s.heap.objs.size x y → h'.objs.size = s.heap.objs.size + 1 →
      (∀ c o, c ≠ z → c ≠ q → c ≠ i1 → c ≠ i2 → s.heap.get? c = some o → h'.get? c = some o) → Q (some (.ref s.heap.objs.size)) { s with heap := h' }) : wpAny (model prog w) A (pyNext (.ref z)) Q E s := by
  have hT : s.TypeIs (.ref z) "zip" := ⟨_, Z.hz, rfl⟩
  unfold pyNext
  exact wpAny_bind (wpAny_attempt (wpAny_callSpecial?_slot (name := Str.ofString "__next__") hT F.slot_zip_next (wpAny_call_entry F.slot_zip_next hT F.entry_zip_next
      (zip_item D Z hl1 hl2 hx hy fun h' c1 c2 c3 c4 => wpAny_pure (hQ h' c1 c2 c3 c4)) (F.args_zip_next_1 _))))
theorem zip_next_stop' {t u : Bool} {z p q i1 i2 l1 l2 : Addr} {k1 k2 : Nat} {xs ys : Array Value} {a b : Value} {Q : Option Value → Shared → Prop} (hh : A.handled = none) (D : ZipApart z p q i1 i2 l1 l2) (Z : ZAt t u s.heap z p q i1 i2 l1 l2 .none a b k1 k2)
    (hl1 : SqAt t s.heap l1 xs) (hl2 : SqAt u s.heap l2 ys) (hend : xs[k1]? = none ∨ ys[k2]? = none)
    (hQ : ∀ h', (∀ c o, c ≠ z → c ≠ q → c ≠ i1 → c ≠ i2 → s.heap.get? c = some o → h'.get? c = some o) → Q none { s with heap := h' }) : wpAny (model prog w) A (pyNext (.ref z)) Q E s := by
  have hT : s.TypeIs (.ref z) "zip" := ⟨_, Z.hz, rfl⟩
  unfold pyNext
  refine wpAny_bind (wpAny_attempt (wpAny_callSpecial?_slot (name := Str.ofString "__next__") hT F.slot_zip_next (wpAny_call_entry F.slot_zip_next hT F.entry_zip_next
      (zip_stop hh D Z hl1 hl2 hend fun h' e c1 ⟨o, ho, hc⟩ => ?_) (F.args_zip_next_1 _))))
  exact wpAny_bind (wpAny_isInstance (T := "StopIteration") (b := true) ⟨o, ho, hc⟩ isSubtype_stop (wpAny_pure (hQ _ c1)))
end
section
abbrev zg1 (t : Bool) (h : Heap) (l1 : Addr) : Heap := h.push { cls := .type (itCls t), data := .fields #[.ref l1, .int 0 0] }
abbrev zg2 (t u : Bool) (h : Heap) (l1 l2 : Addr) : Heap := (zg1 t h l1).push { cls := .type (itCls u), data := .fields #[.ref l2, .int 0 0] }
abbrev zg3 (t u : Bool) (h : Heap) (l1 l2 : Addr) : Heap := (zg2 t u h l1 l2).push { cls := .type "tuple", data := .seq #[.ref h.objs.size, .ref (zg1 t h l1).objs.size] }
abbrev zg4 (t u : Bool) (h : Heap) (l1 l2 : Addr) : Heap := (zg3 t u h l1 l2).push { cls := .type "tuple", data := .seq #[.none, .none] }
abbrev zg5 (t u : Bool) (h : Heap) (l1 l2 : Addr) : Heap := (zg4 t u h l1 l2).push { cls := .type "zip", data := .fields #[.none, .bool false, .bool false, .ref (zg2 t u h l1 l2).objs.size, .ref (zg3 t u h l1 l2).objs.size] }
theorem meets_zipTL (l1 l2 : Addr) (xs ys : Array Value) :
    Meets (Builtin.«zip.__new__» ⟨[.type "zip", .ref l1, .ref l2], []⟩) (fun _ R s => s.heap.IsTuple l1 xs ∧ s.heap.IsList l2 ys ∧ R (.ok (.ret (.ref (zg4 true false s.heap l1 l2).objs.size))) { s with heap := zg5 true false s.heap l1 l2 }) :=
  .of_wp fun prog w A R s h => by
    obtain ⟨hp, g, d, tk, os⟩ := s; obtain ⟨a1, a2, h⟩ := h
    have hsub := sub_zip
    have b1 : Heap.IsTuple (Shared.heap ⟨hp, g, d, tk, os⟩) l1 xs := a1
    have b2 : Heap.IsList (Shared.heap ⟨hp.push { cls := .type "tuple_iterator", data := .fields #[.ref l1, .int 0 0] }, g, d, tk, os⟩) l2 ys := Heap.IsList.push a2 _
    wp_walk using wpAny_pyIter_tuple b1, wpAny_pyIter_list b2
    exact ⟨_, rfl, h⟩
variable {prog : Program} {w : World} {A : Around} {E : Value → Shared → Prop} {s : Shared}
theorem call_zipTL {l1 l2 : Addr} {xs ys : Array Value} {Q : Value → Shared → Prop} (hl1 : s.heap.IsTuple l1 xs) (hl2 : s.heap.IsList l2 ys)
    (h : ∀ h', ZAt true false h' (s.heap.objs.size + 4) (s.heap.objs.size + 2) (s.heap.objs.size + 3) s.heap.objs.size (s.heap.objs.size + 1) l1 l2 .none .none .none 0 0 →
      (∀ c o, s.heap.get? c = some o → h'.get? c = some o) → Q (.ref (s.heap.objs.size + 4)) { s with heap := h' }) :
    wpAny (model prog w) A (call (.type "zip") [.ref l1, .ref l2]) Q E s := by
  refine callType_new F.called_zip (by decide) (F.typeCall_zip_2 _ _) (F.newCall_zip_2 _ _) (fun obj => F.args_object_init_3 obj _ _) F.entry_zip_new (meets_zipTL l1 l2 xs ys) ⟨hl1, hl2, ?_⟩
  have y1 : (zg1 true s.heap l1).objs.size = s.heap.objs.size + 1 := Heap.size_push ..
  have y2 : (zg2 true false s.heap l1 l2).objs.size = s.heap.objs.size + 2 := by rw [Heap.size_push, y1]
  have y3 : (zg3 true false s.heap l1 l2).objs.size = s.heap.objs.size + 3 := by rw [Heap.size_push, y2]
  have y4 : (zg4 true false s.heap l1 l2).objs.size = s.heap.objs.size + 4 := by rw [Heap.size_push, y3]
  have x5 : (zg5 true false s.heap l1 l2).get? (zg4 true false s.heap l1 l2).objs.size = some _ := Heap.get?_push_size _ rfl
  have x4 : (zg5 true false s.heap l1 l2).get? (zg3 true false s.heap l1 l2).objs.size = some _ := Heap.get?_push_of_some _ (Heap.get?_push_size _ rfl)
  have x3 : (zg5 true false s.heap l1 l2).get? (zg2 true false s.heap l1 l2).objs.size = some _ := Heap.get?_push_of_some _ (Heap.get?_push_of_some _ (Heap.get?_push_size _ rfl))
  have x2 : (zg5 true false s.heap l1 l2).get? (zg1 true s.heap l1).objs.size = some _ := Heap.get?_push_of_some _ (Heap.get?_push_of_some _ (Heap.get?_push_of_some _ (Heap.get?_push_size _ rfl)))
  have x1 : (zg5 true false s.heap l1 l2).get? s.heap.objs.size = some _ := Heap.get?_push_of_some _ (Heap.get?_push_of_some _ (Heap.get?_push_of_some _ (Heap.get?_push_of_some _ (Heap.get?_push_size _ rfl))))
  show _ ∧ _
  rw [y2, y3, y4] at x5
  rw [y1, y2] at x3
  rw [y3] at x4
  rw [y1] at x2
  rw [y4]
  exact ⟨⟨_, x5, rfl⟩, h _ ⟨x5, x3, x4, ItAt.mk_ (t := true) x1, ItAt.mk_ (t := false) x2⟩ fun c o r => Heap.get?_push_of_some _ (Heap.get?_push_of_some _ (Heap.get?_push_of_some _ (Heap.get?_push_of_some _ (Heap.get?_push_of_some _ r))))⟩
end
/-- a tuple and a list walked together -/
def ItzM (K : PySem.W.Frag) (a b : Addr) : It :=
  ⟨fun i H => ∃ (xs ys : List V) (x y : V), SqT K H a xs ∧ SqL K H b ys ∧ xs[i]? = some x ∧ ys[i]? = some y,
    fun i H v H' => ∃ T x y, v = .ref T ∧ H T = none ∧ H' = upd H T (.tup [x, y]) ∧ (∀ xs, SqT K H a xs → xs[i]? = some x) ∧ ∀ ys, SqL K H b ys → ys[i]? = some y,
    fun i H => ∃ xs ys : List V, SqT K H a xs ∧ SqL K H b ys ∧ (xs.length ≤ i ∨ ys.length ≤ i)⟩
theorem turn_zipM {P : Program} {w : World} {K : PySem.W.Frag} {elts : List Expr} {kk : Nat} {tpos : Pos} {a b z p q i1 i2 : Addr} (D : ZipApart z p q i1 i2 a b) :
    Turn P w K (.Tuple elts kk tpos) (ItzM K a b) [z, p, q, i1, i2] z (fun i h => ∃ x y, ZAt true false h z p q i1 i2 a b .none x y i i) where
  mem := List.mem_cons_self ..
  obj := fun i h ⟨x, y, Z⟩ c hc => by
    have cs : c = z ∨ c = p ∨ c = q ∨ c = i1 ∨ c = i2 := by simpa using hc
    rcases cs with rfl | rfl | rfl | rfl | rfl
    · exact ⟨_, Z.hz, fun v r => nomatch r⟩
    · exact ⟨_, Z.hp, fun v r => nomatch r⟩
    · exact ⟨_, Z.hq, fun v r => nomatch r⟩
    · obtain ⟨o, vs, e1, e2⟩ := Z.h1.obj
      exact ⟨o, e1, fun v r => by rw [e2] at r; cases r⟩
    · obtain ⟨o, vs, e1, e2⟩ := Z.h2.obj
      exact ⟨o, e1, fun v r => by rw [e2] at r; cases r⟩
  keep := fun i h h' ⟨x, y, Z⟩ k => ⟨x, y, k z (by simp) _ Z.hz, k p (by simp) _ Z.hp, k q (by simp) _ Z.hq, Z.h1.at_ fun o r => k i1 (by simp) o r, Z.h2.at_ fun o r => k i2 (by simp) o r⟩
  item := by
    intro X hP hw hK hc i pins s σ H E I hf ⟨x0, y0, Z⟩ ⟨xs, ys, x, y, sx, sy, ex, ey⟩
    subst hP hw hK
    obtain ⟨is1, r1, t1, _⟩ := I.tuple sx
    obtain ⟨is2, r2, t2, _⟩ := I.list sy
    obtain ⟨u1, g1, ru1⟩ := r1.get ex
    obtain ⟨u2, g2, ru2⟩ := r2.get ey
    have lz : z < s.heap.objs.size := Heap.lt_size Z.hz
    refine zip_next_item' D Z (show SqAt true s.heap a is1.toArray from t1) (show SqAt false s.heap b is2.toArray from t2.isList) (x := u1) (y := u2) (by simpa using g1) (by simpa using g2) fun h' Z' pr sz kp => ?_
    refine ⟨_, rfl, wpAny_letOwnedTupleGo_zip (s := { s with heap := h' }) Z'.hz fun h2 zz sb => ?_⟩
    have pr2 : h2.get? s.heap.objs.size = some { cls := .type "tuple", data := .seq #[u1, u2] } := (sb.2 _ (Nat.ne_of_gt lz)).trans pr
    have nw : ObjOk X.prog X.w (upd H s.heap.objs.size (.tup [x, y])) h2 s.heap.objs.size (.tup [x, y]) := ⟨by show 2 ≤ sizeLine; decide, [u1, u2], .cons ru1 (.cons ru2 .nil), ⟨_, pr2, rfl, _, rfl⟩⟩
    have I1 : Inv X pins σ (upd H s.heap.objs.size (.tup [x, y])) { s with heap := h2 } :=
      I.turnedNew (t' := s.toks) (ch := [z, p, q, i1, i2]) (fun c o hb e => (sb.2 c fun e' => hb (by simp [e'])).trans (kp c o (fun e' => hb (by simp [e'])) (fun e' => hb (by simp [e'])) (fun e' => hb (by simp [e'])) (fun e' => hb (by simp [e'])) e)) hf (Nat.le_refl _) nw
    refine ⟨.ref s.heap.objs.size, _, I1, rfl, ⟨_, x, y, rfl, I.hok.fresh (Nat.le_refl _), rfl, fun l hl => by rw [I.tuple_inj hl sx]; exact ex, fun l hl => by rw [I.list_inj hl sy]; exact ey⟩, ⟨u1, u2, zz, (sb.2 _ D.TIz).trans Z'.hp, (sb.2 _ D.TOz).trans Z'.hq, Z'.h1.at_ fun o e => (sb.2 _ D.i1z).trans e, Z'.h2.at_ fun o e => (sb.2 _ D.i2z).trans e⟩, fun c hcm => ?_⟩
    have hlt : c < s.heap.objs.size := by
      have cs : c = z ∨ c = p ∨ c = q ∨ c = i1 ∨ c = i2 := by simpa using hcm
      rcases cs with rfl | rfl | rfl | rfl | rfl
      · exact lz
      · exact Heap.lt_size Z.hp
      · exact Heap.lt_size Z.hq
      · obtain ⟨o, _, e, _⟩ := Z.h1.obj; exact Heap.lt_size e
      · obtain ⟨o, _, e, _⟩ := Z.h2.obj; exact Heap.lt_size e
    rw [upd_ne (Nat.ne_of_lt hlt)]
    exact (hf c hcm).1
  done := by
    intro X hP hw hK hc i pins s σ H E I hf ⟨x0, y0, Z⟩ ⟨xs, ys, sx, sy, hend⟩
    subst hP hw hK
    obtain ⟨is1, r1, t1, _⟩ := I.tuple sx
    obtain ⟨is2, r2, t2, _⟩ := I.list sy
    have n1 := r1.length
    have n2 := r2.length
    have he : is1.toArray[i]? = none ∨ is2.toArray[i]? = none := hend.imp (fun r => by simp; omega) fun r => by simp; omega
    exact zip_next_stop' (I.ok.hd hc) D Z (show SqAt true s.heap a is1.toArray from t1) (show SqAt false s.heap b is2.toArray from t2.isList) he fun h' kp => ⟨rfl, I.turnedL (t' := s.toks) (ch := [z, p, q, i1, i2]) (fun c o hb e =>
      kp c o (fun e' => hb (by simp [e'])) (fun e' => hb (by simp [e'])) (fun e' => hb (by simp [e'])) (fun e' => hb (by simp [e'])) e) hf⟩
  self := fun A i s Q E ⟨_, _, Z⟩ h => wpAny_pyIter_zip Z.hz h
def iZipM (K : PySem.W.Frag) (ta : TA) : TI := fun σ H R => ta σ H fun vs H1 => ∃ a b xs ys, vs = [.ref a, .ref b] ∧ ((SqL K H1 a xs ∧ SqL K H1 b ys ∧ R (Itz K a b) H1) ∨ (SqT K H1 a xs ∧ SqL K H1 b ys ∧ R (ItzM K a b) H1))
theorem pi_zipM {X : Cx} {e e2 : Expr} {ta : TA} {p pos tpos : Pos} {elts : List Expr} {kk : Nat} (hg : Gl X "zip") (hm : X.mg "zip" = none) (ha : PA X [e, e2] ta)
    (hs : starEach [e, e2] X.env = (false, eval e X.env) :: starEach [e2] X.env := by rfl) (hpl : (backTo pos (starEach [e2] X.env)).any (·.1) = false := by rfl) : PI X (.Tuple elts kk tpos) (.Call (.Name "zip" p) [e, e2] [] pos) (iZipM X.K ta) := by
  refine ⟨fun pins s σ H R I h => Call_ (ld_blt I hg hm PyProof.Rows.boot_zip (PyProof.Rows.callWith_type1 (thn (ha.run pos pins s σ H _ I h) fun us s1 ⟨vs, H1, I1, r1, a, b, xs, ys, ex, q1⟩ => ?_) hs hpl))⟩
  subst ex
  obtain ⟨u1, u2, rfl, e1, e2⟩ : ∃ u1 u2, us = [u1, u2] ∧ RelV (.ref a) u1 ∧ RelV (.ref b) u2 := by
    cases r1 with
    | cons r rr =>
      cases rr with
      | cons r' rr => cases rr; exact ⟨_, _, rfl, r, r'⟩
  cases e1
  cases e2
  have fr : ∀ c, c ∈ [s1.heap.objs.size + 4, s1.heap.objs.size + 2, s1.heap.objs.size + 3, s1.heap.objs.size, s1.heap.objs.size + 1] → FpOk X pins H1 c := fun c hcm => by
    have hle : s1.heap.objs.size ≤ c := by
      simp only [List.mem_cons, List.not_mem_nil, or_false] at hcm
      rcases hcm with rfl | rfl | rfl | rfl | rfl
      all_goals first | exact Nat.le_add_right _ _ | exact Nat.le_refl _
    exact I1.fpOk hle (I1.hok.fresh hle)
  rcases q1 with ⟨sx, sy, q⟩ | ⟨sx, sy, q⟩
  · obtain ⟨is1, _, t1, _⟩ := I1.list sx
    obtain ⟨is2, _, t2, _⟩ := I1.list sy
    exact call_zip_2 t1.isList t2.isList fun h' a1 a2 a3 a4 a5 _ kp => wpAny_pyIter_zip a1 ⟨s1.heap.objs.size + 4, [s1.heap.objs.size + 4, s1.heap.objs.size + 2, s1.heap.objs.size + 3, s1.heap.objs.size, s1.heap.objs.size + 1], _, _, H1, rfl, I1.kept (t' := s1.toks) kp, turn_zip (PySem.W.ktu_apart s1.heap.objs.size a b t1.lt t2.lt), ⟨a1, a2, ⟨_, _, a3⟩, a4, a5⟩, fr, q⟩
  · obtain ⟨is1, _, t1, _⟩ := I1.tuple sx
    obtain ⟨is2, _, t2, _⟩ := I1.list sy
    have t1' : s1.heap.IsTuple a is1.toArray := t1
    exact call_zipTL t1' t2.isList fun h' Z kp => wpAny_pyIter_zip Z.hz ⟨s1.heap.objs.size + 4, [s1.heap.objs.size + 4, s1.heap.objs.size + 2, s1.heap.objs.size + 3, s1.heap.objs.size, s1.heap.objs.size + 1], _, _, H1, rfl, I1.kept (t' := s1.toks) kp, turn_zipM (PySem.W.ktu_apart s1.heap.objs.size a b (SqAt.lt_ (t := true) t1') t2.lt), ⟨_, _, Z⟩, fr, q⟩
/-! zip, as the layer reads it -/
/-- two things as a new pair -/
def pairD (x y : D) : D := match plain [x, y] with
  | some xs => .p (.tuple xs)
  | none => .mix [x, y]
theorem pair_new {w : World} {K : PySem.W.Frag} {mg : Str → Option Value} {m : Mm} {H : Hp} {h : Hm} {T : Addr} {x y : V} {d e : D} (S : Sim w K mg m H h) (nT : H T = none) (rx : Rep w K mg m H d x) (ry : Rep w K mg m H e y) :
    Sim w K mg m (upd H T (.tup [x, y])) h ∧ Ext m H m (upd H T (.tup [x, y])) ∧ Rep w K mg m (upd H T (.tup [x, y])) (pairD d e) (.ref T) := by
  have X1 : Ext m H m (upd H T (.tup [x, y])) := Ext.new S nT
  have r : RepA w K mg m H [d, e] [x, y] := by simp only [RepA]; exact ⟨_, _, rfl, rx, _, _, rfl, ry, rfl⟩
  have fz : FzT K m (upd H T (.tup [x, y])) T [x, y] := .inl ⟨upd_same, S.notin nT⟩
  refine ⟨S.new nT, X1, ?_⟩
  unfold pairD
  cases q : plain [d, e] with
  | some xs => simp only [Rep, RepP]; exact ⟨T, _, rfl, fz, plain_rep q (r.mono X1)⟩
  | none => simp only [Rep]; exact ⟨T, _, rfl, fz, r.mono X1⟩
/-- what may stand in zip: a list of data, a tuple -/
def zipL : D → D → Option (List D)
  | .p (.list xs), .p (.list ys) => some (List.zipWith pairD (xs.map .p) (ys.map .p))
  | .p (.tuple xs), .p (.list ys) => some (List.zipWith pairD (xs.map .p) (ys.map .p))
  | .mix xs, .p (.list ys) => some (List.zipWith pairD xs (ys.map .p))
  | _, _ => none
def itZip (f : Ev → M (List D)) : Ev → M (List D) := fun μ => bnd (f μ) fun ds => match ds with
  | [x, y] => (match zipL x y with
    | some zs => ret zs
    | none => bad)
  | _ => bad
theorem zw_at {ds es : List D} {i : Nat} {d : D} (e : (List.zipWith pairD ds es)[i]? = some d) : ∃ x y, ds[i]? = some x ∧ es[i]? = some y ∧ d = pairD x y := by
  rw [List.getElem?_zipWith] at e
  split at e
  · rename_i a b e1 e2
    exact ⟨a, b, e1, e2, (Option.some.inj e).symm⟩
  · cases e
theorem walks_zipLL {T : Tx} {m : Mm} {H : Hp} {a b : Addr} {vs us : List V} {ds es : List D} (f : FzL T.K m H a vs) (r : RepA T.w T.K T.mg m H ds vs) (f2 : FzL T.K m H b us) (r2 : RepA T.w T.K T.mg m H es us) : WalksD T m H (Itz T.K a b) (List.zipWith pairD ds es) := by
  refine ⟨fun m' H' h' X S i d e => ?_, fun m' H' h' X S => ⟨vs, us, (f.mov X).sq, (f2.mov X).sq, ?_⟩⟩
  · obtain ⟨x, y, e1, e2, rfl⟩ := zw_at e
    obtain ⟨v, hv, rv⟩ := repA_at r e1
    obtain ⟨u, hu, ru⟩ := repA_at r2 e2
    refine ⟨⟨vs, us, v, u, (f.mov X).sq, (f2.mov X).sq, hv, hu⟩, fun z H2 hy => ?_⟩
    obtain ⟨Tt, x', y', rfl, nT, rfl, k1, k2⟩ := hy
    have c1 := k1 vs (f.mov X).sq
    have c2 := k2 us (f2.mov X).sq
    rw [hv] at c1; rw [hu] at c2
    cases c1; cases c2
    exact pair_new S nT (Rep.mov X _ _ rv) (Rep.mov X _ _ ru)
  · rw [List.length_zipWith, r.length, r2.length]; omega
theorem walks_zipTL {T : Tx} {m : Mm} {H : Hp} {a b : Addr} {vs us : List V} {ds es : List D} (f : FzT T.K m H a vs) (r : RepA T.w T.K T.mg m H ds vs) (f2 : FzL T.K m H b us) (r2 : RepA T.w T.K T.mg m H es us) : WalksD T m H (ItzM T.K a b) (List.zipWith pairD ds es) := by
  refine ⟨fun m' H' h' X S i d e => ?_, fun m' H' h' X S => ⟨vs, us, (f.mov X).sq, (f2.mov X).sq, ?_⟩⟩
  · obtain ⟨x, y, e1, e2, rfl⟩ := zw_at e
    obtain ⟨v, hv, rv⟩ := repA_at r e1
    obtain ⟨u, hu, ru⟩ := repA_at r2 e2
    refine ⟨⟨vs, us, v, u, (f.mov X).sq, (f2.mov X).sq, hv, hu⟩, fun z H2 hy => ?_⟩
    obtain ⟨Tt, x', y', rfl, nT, rfl, k1, k2⟩ := hy
    have c1 := k1 vs (f.mov X).sq
    have c2 := k2 us (f2.mov X).sq
    rw [hv] at c1; rw [hu] at c2
    cases c1; cases c2
    exact pair_new S nT (Rep.mov X _ _ rv) (Rep.mov X _ _ ru)
  · rw [List.length_zipWith, r.length, r2.length]; omega
section
variable {X : Cx} {W : XK}
theorem is_zip {e e2 : Expr} {fa : Ev → M (List D)} {p pos tpos : Pos} {elts : List Expr} {kk : Nat} (hg : Gl X "zip") (hm : X.mg "zip" = none) (ha : AS X W [e, e2] fa)
    (hs : starEach [e, e2] X.env = (false, eval e X.env) :: starEach [e2] X.env := by rfl) (hpl : (backTo pos (starEach [e2] X.env)).any (·.1) = false := by rfl) : IS X W (.Tuple elts kk tpos) (.Call (.Name "zip" p) [e, e2] [] pos) (itZip fa) :=
  pi_imp (pi_zipM hg hm ha hs hpl) fun σ H Q ⟨μ, m, h, S, V, hp⟩ => ⟨μ, m, h, S, V, Post.bnd hp fun ds h1 m1 H1 vs _ S1 X1 r1 hp1 => by
    split at hp1
    · rename_i x y _
      simp only [RepA] at r1
      obtain ⟨v, _, rfl, rx, u, _, rfl, ry, rfl⟩ := r1
      cases q : zipL x y with
      | none => rw [q] at hp1; exact hp1.elim
      | some zs =>
        rw [q] at hp1
        unfold zipL at q
        split at q
        · cases q
          simp only [Rep, RepP] at rx ry
          obtain ⟨a, us, rfl, f, r⟩ := rx
          obtain ⟨b, ws, rfl, f2, r2⟩ := ry
          exact ⟨a, b, us, ws, rfl, .inl ⟨f.sq, f2.sq, Post.ret hp1 S1 (walks_zipLL f (repA_map r) f2 (repA_map r2))⟩⟩
        · cases q
          simp only [Rep, RepP] at rx ry
          obtain ⟨a, us, rfl, f, r⟩ := rx
          obtain ⟨b, ws, rfl, f2, r2⟩ := ry
          exact ⟨a, b, us, ws, rfl, .inr ⟨f.sq, f2.sq, Post.ret hp1 S1 (walks_zipTL f (repA_map r) f2 (repA_map r2))⟩⟩
        · cases q
          simp only [Rep, RepP] at rx ry
          obtain ⟨a, us, rfl, f, r⟩ := rx
          obtain ⟨b, ws, rfl, f2, r2⟩ := ry
          exact ⟨a, b, us, ws, rfl, .inr ⟨f.sq, f2.sq, Post.ret hp1 S1 (walks_zipTL f r f2 (repA_map r2))⟩⟩
        · cases q
    · exact hp1.elim⟩
end
/-! enumerate of a list -/
def enuL (xs : List PyData) : List D := xs.zipIdx.map fun p => .p (.tuple [.int (p.2 : Nat), p.1])
def itEnum (f : Ev → M (List D)) : Ev → M (List D) := fun μ => bnd (f μ) fun ds => match ds with
  | [.p (.list xs)] => ret (enuL xs)
  | _ => bad
theorem walks_enum {T : Tx} {m : Mm} {H : Hp} {a : Addr} {vs : List V} {xs : List PyData} (f : FzL T.K m H a vs) (r : RepA T.w T.K T.mg m H (xs.map .p) vs) : WalksD T m H (Ite T.K a) (enuL xs) := by
  refine ⟨fun m' H' h' X S i d e => ?_, fun m' H' h' X S => ⟨vs, (f.mov X).sq, ?_⟩⟩
  · simp only [enuL, List.getElem?_map, List.getElem?_zipIdx, Option.map_eq_some_iff] at e
    obtain ⟨q, ⟨x, e, rfl⟩, rfl⟩ := e
    obtain ⟨v, hv, rv⟩ := repA_at r (j := i) (x := .p x) (by rw [List.getElem?_map, e]; rfl)
    refine ⟨⟨vs, v, (f.mov X).sq, hv⟩, fun z H2 hy => ?_⟩
    obtain ⟨Tt, y, rfl, nT, rfl, k1⟩ := hy
    have c1 := k1 vs (f.mov X).sq
    rw [hv] at c1
    cases c1
    have := pair_new (d := .p (.int (i : Nat))) (e := .p x) (x := .int (i : Nat)) S nT (by simp only [Rep, RepP]) (Rep.mov X _ _ rv)
    simp only [Nat.zero_add]
    exact this
  · have := r.length
    simp only [List.length_map] at this
    simp only [enuL, List.length_map, List.length_zipIdx]
    omega
section
variable {X : Cx} {W : XK}
theorem is_enum {e : Expr} {fa : Ev → M (List D)} {p pos tpos : Pos} {elts : List Expr} {kk : Nat} (hg : Gl X "enumerate") (hm : X.mg "enumerate" = none) (ha : AS X W [e] fa) (hs : starEach [e] X.env = [(false, eval e X.env)] := by rfl) :
    IS X W (.Tuple elts kk tpos) (.Call (.Name "enumerate" p) [e] [] pos) (itEnum fa) :=
  pi_imp (pi_enum hg hm ha hs) fun σ H Q ⟨μ, m, h, S, V, hp⟩ => ⟨μ, m, h, S, V, Post.bnd hp fun ds h1 m1 H1 vs _ S1 X1 r1 hp1 => by
    split at hp1
    · rename_i xs
      simp only [RepA, Rep, RepP] at r1
      obtain ⟨v, _, rfl, ⟨a, us, rfl, f, r⟩, rfl⟩ := r1
      exact ⟨a, us, rfl, f.sq, Post.ret hp1 S1 (walks_enum f (repA_map r))⟩
    · exact hp1.elim⟩
/-! sum of a list of ints -/
def intsL : List PyData → Option (List Int)
  | [] => some []
  | .int i :: xs => (intsL xs).map (i :: ·)
  | _ => none
theorem intsL_rep {w : World} {K : PySem.W.Frag} {m : Mm} {H : Hp} : ∀ {xs : List PyData} {ns : List Int} {vs : List V}, intsL xs = some ns → RepPs w K m H xs vs → vs = ns.map V.int
  | [], ns, vs, e, r => by
    simp only [intsL, Option.some.injEq] at e
    subst e
    simp only [RepPs] at r
    rw [r]; rfl
  | x :: xs, ns, vs, e, r => by
    cases x with
    | int i =>
      simp only [intsL, Option.map_eq_some_iff] at e
      obtain ⟨ns', e, rfl⟩ := e
      simp only [RepPs, RepP] at r
      obtain ⟨v, r', rfl, rfl, h2⟩ := r
      rw [intsL_rep e h2]
      rfl
    | _ => simp [intsL] at e
def sumP : PyData → M D
  | .list xs => (match intsL xs with
    | some ns => ret (.p (.int ns.sum))
    | none => bad)
  | _ => bad
theorem c_sum (hc : X.calm = true) : CallS X W (.builtin "sum") (one sumP) := by
  refine callS_one (cr_sum hc) fun m H h q v Q S r hp => ?_
  cases q with
  | list xs =>
    obtain ⟨a, vs, rfl, f, r⟩ := r
    unfold sumP at hp
    cases e : intsL xs with
    | none => simp only [e] at hp; exact hp.elim
    | some ns =>
      simp only [e] at hp
      have := intsL_rep e r
      subst this
      exact ⟨a, ns, rfl, f, Post.ret hp S (by simp [Rep, RepP])⟩
  | _ => exact hp.elim
end
end MP
/-! MP15: a module's dict asked by get; tuples of defs in it; a def's other name. -/
namespace MP
open PySem PySem.Spec PyProof.Rows L2
/-! ### a tuple of defs -/
def KFns (mg : Str → Option Value) : List Str → List Value → Prop
  | [], [] => True
  | x :: xs, v :: vs => (∃ f, v = .ref f ∧ mg x = some (.ref f)) ∧ KFns mg xs vs
  | [], _ :: _ => False
  | _ :: _, [] => False
theorem KFns.rep {w : World} {K : PySem.W.Frag} {mg : Str → Option Value} {m : Mm} {H : Hp} : ∀ {xs : List Str} {vs : List Value}, KFns mg xs vs → ∃ us, Vals us vs ∧ RepA w K mg m H (xs.map .glob) us ∧ ∀ i, V.int i ∉ us
  | [], [], _ => ⟨[], .nil, by simp only [List.map_nil, RepA], by simp⟩
  | x :: xs, v :: vs, ⟨⟨f, e, hm⟩, h2⟩ => by
    subst e
    obtain ⟨us, rs, ps, ni⟩ := KFns.rep (K := K) (m := m) (H := H) h2
    refine ⟨.ref f :: us, .cons rfl rs, by simp only [List.map_cons, RepA, Rep]; exact ⟨_, us, rfl, ⟨f, rfl, hm⟩, ps⟩, fun i hi => ?_⟩
    rcases List.mem_cons.mp hi with e | hi
    · cases e
    · exact ni i hi
  | [], _ :: _, h => h.elim
  | _ :: _, [], h => h.elim
theorem rep_kmix {w : World} {K : PySem.W.Frag} {mg : Str → Option Value} {t : Addr} {its : Array Value} {n : Nat} {od : Option Addr} {sl : Array (Option Value)} {xs : List Str} (l : K.lookup t = some ⟨.type "tuple", od, .seq its n, sl⟩) (h : its.size ≤ sizeLine) (r : KFns mg xs its.toList) : ∀ m H, Rep w K mg m H (.mix (xs.map .glob)) (.ref t) := by
  intro m H
  obtain ⟨us, rv, rp, ni⟩ := r.rep (K := K) (m := m) (H := H)
  simp only [Rep]
  exact ⟨t, us, rfl, .inr ⟨.inr ⟨_, its, n, l, rfl, rfl, h, rv⟩, ni⟩, rp⟩
/-! ### get -/
def gtKD (kvs : List (Str × D)) : D → M D
  | .p (.str z) => ret ((kvs.lookup z).getD (.p .none))
  | _ => bad
section
variable {X : Cx} {W : XK} {x : Str} {kvs : List (Str × D)} {e : Expr} {p apos cpos : Pos} {fk : Ev → M D}
theorem es_getKD (hg : Gl X x) (F : KD X.K X.w X.mg x kvs) (he : ES X W e fk) (m : M1 X (.Name x p) "get" apos e cpos := by exact ⟨rfl, rfl, rfl, rfl⟩) (hd : (x == ("__debug__" : Str)) = false := by decide) : ES X W (.Call (.Attribute (.Name x p) "get" apos) [e] [] cpos) (un (gtKD kvs) fk) := by
  obtain ⟨dd, es, n, hm, KDd, en⟩ := F.ex
  refine ⟨fun pins s σ H Q I hh => ?_⟩
  refine wpAny_Call_method m.base m.few m.line PySem.F.plainAttrs_dict PySem.F.slot_dict_get PySem.F.type_dict_get (thn ((pe_glob (v := .ref dd) hg hm rfl hd).run pins s σ H (fun v H1 => v = .ref dd ∧ H1 = H) I ⟨rfl, rfl⟩) fun u s1 ⟨v, H1, I1, rx, q1⟩ => ?_)
  obtain ⟨rfl, rfl⟩ := q1
  cases rx
  have mo := PySem.W.mapOf_K (prog := X.prog) (w := X.w) I1.kIn KDd.at_ KDd.lit
  refine ⟨mo.typeIs, fun b q => ?_, ?_⟩
  · cases q
    obtain ⟨ob, _, _, h1, h2, _⟩ := mo
    exact ⟨ob, h1, h2.2.1⟩
  rw [m.trees]
  obtain ⟨μ, m0, h0, S, EV, hp⟩ := hh
  refine Calls.callWith_builtin rfl (Calls.evalArgs_plain (Calls.spliced_cons (thn (he.run pins s1 σ H1 (fun u H2 => ∃ z d m2 h2, u = V.str z ∧ kvs.lookup z = d ∧ Sim X.w X.K X.mg m2 H2 h2 ∧ Post (tx X W) m2 H2 (Rep X.w X.K X.mg) (ret (d.getD (.p .none)) h2) Q) I1 ⟨μ, m0, h0, S, EV, Post.bnd hp fun y h2 m2 H2 u _ S2 X2 r2 hp2 => ?_⟩) fun iv s2 ⟨y, H2, I2, ry, z, d, m2, h2, ey, ed, S2, q2⟩ => Calls.spliced_nil ?_)))
  · cases y with
    | p q =>
      cases q with
      | str z =>
        simp only [Rep, RepP] at r2
        exact ⟨z, _, m2, h2, r2, rfl, S2, hp2⟩
      | _ => exact hp2.elim
    | _ => exact hp2.elim
  · subst ey
    obtain ⟨t, rfl⟩ := ry
    have mo2 := PySem.W.mapOf_K (prog := X.prog) (w := X.w) I2.kIn KDd.at_ KDd.lit
    refine PySem.call_meetsIn PySem.F.slot_dict_get mo2.typeIs PySem.F.entry_dict_get (PySem.F.args_dict_get_2 _ _) (PySem.meets_dict_get (PySem.strKind X.prog X.w) dd (PySem.strKind_is X.prog X.w z t) KDd.low) ⟨_, mo2, ?_⟩
    have f := en.ns KDd.at_ z
    rw [ed] at f
    cases d with
    | none =>
      rw [PySem.W.find_K KDd.at_ f]
      exact ⟨.non, H2, I2.tok _, rfl, q2 _ H2 _ S2 Ext.refl (by simp [Rep, RepP])⟩
    | some c =>
      obtain ⟨u1, v1, f, rv, rp⟩ := f
      rw [PySem.W.find_K KDd.at_ f]
      exact ⟨v1, H2, I2.tok _, rv, q2 _ H2 _ S2 Ext.refl (rp _ H2)⟩
end
section
variable {P : Program} {w : World} {K : PySem.W.Frag} {mg : Str → Option Value} {base : Heap}
/-- a def by its other name -/
theorem Def.other {k n : Nat} {x y : Str} {F : List D → M D} (d : Def P w K mg base k x n F) (h : mg y = mg x) : Def P w K mg base k y n F := by
  obtain ⟨f, fd, ps, FF, hm, r⟩ := d.ex
  exact ⟨f, fd, ps, FF, h.trans hm, r⟩
end
end MP
/-! MP16: a tuple compared with the empty one. -/
namespace MP
open PySem PySem.Spec PyProof.Rows L2
section
variable {X : Cx} {W : XK}
theorem op_eqE (hu : X.A.units < cLine) : OpR X (compareOp .Eq) (fun x y H Q => ∃ a b xs, x = .ref a ∧ y = .ref b ∧ SqT X.K H a xs ∧ SqT X.K H b [] ∧ Q (.bl xs.isEmpty) H) := by
  intro pins s σ H x y v u Q I rx ry h
  obtain ⟨a, b, xs, rfl, rfl, sx, sy, q⟩ := h
  cases rx
  cases ry
  obtain ⟨is1, r1, t1, _⟩ := I.tuple sx
  obtain ⟨is2, r2, t2, _⟩ := I.tuple sy
  have e2 : is2 = [] := by
    have := r2.length
    exact List.length_eq_zero_iff.mp (by simpa using this.symm)
  subst e2
  have t1' : s.heap.IsTuple a is1.toArray := t1
  have t2' : s.heap.IsTuple b #[] := t2
  have n1 := r1.length
  have := PySem.SeqAt.RcAt.tuples (A := X.A) (e := fun _ => true) t1' t2' hu (fun j _ h2 => absurd h2 (by simp)) X.prog X.w X.xe (EP X pins σ Q)
  refine this ⟨.bl xs.isEmpty, H, I, ?_, q⟩
  have : (xs.isEmpty) = ((List.range (min is1.toArray.size (#[] : Array Value).size)).all (fun _ => true) && is1.toArray.size == (#[] : Array Value).size) := by
    cases xs with
    | nil => cases is1 with
      | nil => rfl
      | cons _ _ => simp at n1
    | cons _ _ => cases is1 with
      | nil => simp at n1
      | cons _ _ => simp
  rw [this]
  rfl
def emT : PyData → PyData → Option Bool
  | .tuple xs, .tuple [] => some xs.isEmpty
  | _, _ => none
/-- == as eqP has it, or of any tuple with () -/
def eqT (x y : PyData) : M D := match emT x y with
  | some b => ret (.p (.bool b))
  | none => eqP false x y
theorem emT_of : ∀ {x y : PyData} {b : Bool}, emT x y = some b → ∃ xs, x = .tuple xs ∧ y = .tuple [] ∧ b = xs.isEmpty
  | .tuple xs, .tuple [], b, h => ⟨xs, rfl, rfl, (Option.some.inj h).symm⟩
theorem o_eqT {k : Nat} (hr : Room k X.A) : Op2 X W (compareOp .Eq) (rd2 eqT) := by
  refine op2_of ((op_eqE (by have := hr.un; omega)).or (op_eq.or (op_eqD hr.units))) fun m H h p q v u Q S r1 r2 hp => ?_
  unfold eqT at hp
  cases e : emT p q with
  | some b =>
    rw [e] at hp
    obtain ⟨xs, rfl, rfl, rfl⟩ := emT_of e
    simp only [RdP, RepP] at r1 r2
    obtain ⟨a, vs, rfl, f, r⟩ := r1
    obtain ⟨c, us, rfl, f2, r2⟩ := r2
    simp only [RepPs] at r2
    subst r2
    refine .inl ⟨a, c, vs, rfl, rfl, f.sq, f2.sq, ?_⟩
    have : vs.isEmpty = xs.isEmpty := by
      have := r.length
      cases vs <;> cases xs <;> simp_all
    rw [this]
    exact Post.ret hp S (by simp [Rep, RepP])
  | none =>
    rw [e] at hp
    obtain ⟨h1 | ⟨h1, h2⟩, hp⟩ := chk_post hp
    · obtain ⟨a, b, rfl, rfl⟩ := twoS_of h1
      simp only [RdP, RepP] at r1 r2
      subst r1 r2
      exact .inr (.inl ⟨rfl, Post.ret hp S (by simp only [Rep, RepP, PyData.eqv, dec_str]; rfl)⟩)
    · exact .inr (.inr ⟨p, q, r1.dp (shaped_noDict h1), r2.dp (shaped_noDict h2), h1, h2, Post.ret hp S (by simp [Rep, RepP])⟩)
/-- len, of a tuple of defs too -/
def lenA : List D → M D
  | [.mix xs] => ret (.p (.int xs.length))
  | ds => one lenP ds
@[simp] theorem lenA_p (x : PyData) : lenA [.p x] = one lenP [.p x] := rfl
@[simp] theorem lenA_mix (xs : List D) : lenA [.mix xs] = ret (.p (.int xs.length)) := rfl
theorem c_lenA : CallS X W (.builtin "len") lenA := by
  intro pins s σ H vs us Q I rv hh
  obtain ⟨m, h, ds, S, r, hp⟩ := hh
  by_cases e : ∃ xs, ds = [.mix xs]
  · obtain ⟨xs, rfl⟩ := e
    simp only [RepA, Rep] at r
    obtain ⟨v, _, rfl, ⟨a, ws, rfl, f, r⟩, rfl⟩ := r
    have hp : Post (tx X W) m H (Rep X.w X.K X.mg) (ret (.p (.int xs.length)) h) Q := hp
    refine (call_len_seq (X := X)) pins s σ H [.ref a] us Q I rv ⟨a, ws, rfl, .inr f.sq, ?_⟩
    rw [r.length]
    exact Post.ret hp S (by simp [Rep, RepP])
  · have : lenA ds = one lenP ds := by
      unfold lenA
      split
      · rename_i xs
        exact absurd ⟨xs, rfl⟩ e
      · rfl
    rw [this] at hp
    exact c_len pins s σ H vs us Q I rv ⟨m, h, ds, S, r, hp⟩
end
end MP
/-! MP17: leaving with a list of lists; lists added into a new cell; upper; xs[::-1]; a def of another name. -/
namespace MP
open PySem PySem.Spec PyProof.Rows L2
/-! ### leaving with a list that holds new lists -/
def frz2 (n : Nat) (h : Hm) : D → Option D
  | .cell k => if k < n then some (.cell k) else match h[k]? with
    | some (.lst xs) => ((frzs n h xs).bind plain).map fun ys => .p (.list ys)
    | _ => none
  | d => frz n h d
def leave2 (n : Nat) (d : D) (h : Hm) : R D := if h.length = n then .ok d h else if low n (h.take n) = true then (match frz2 n h d with
    | some d' => .ok d' (h.take n)
    | none => .bad) else .bad
section
variable {w : World} {K : PySem.W.Frag} {mg : Str → Option Value} {m m' : Mm} {H H' : Hp} {h h' : Hm}
theorem notin_cut {n k : Nat} {a : Addr} (S : Sim w K mg m H h) (ha : m.c[k]? = some a) (hk : ¬ k < n) : a ∉ m.cut n := by
  rintro (z | z)
  · obtain ⟨j, hj⟩ := List.getElem?_of_mem z
    have hj' : (m.c.take n)[j]? = some a := hj
    have jl : j < n := by
      rcases Nat.lt_or_ge j n with q | q
      · exact q
      · rw [List.getElem?_eq_none (by simp only [List.length_take]; omega)] at hj'; cases hj'
    rw [List.getElem?_take_of_lt jl] at hj'
    exact hk (by rw [nodup_at S.nd ha hj']; exact jl)
  · exact (S.pv a z).2 (List.mem_of_getElem? ha)
theorem Rep.frz2 {n : Nat} (S : Sim w K mg m H h) (d d' : D) (v : V) (e : MP.frz2 n h d = some d') (r : Rep w K mg m H d v) : Rep w K mg (m.cut n) H d' v := by
  cases d with
  | cell k =>
    simp only [MP.frz2] at e
    by_cases hk : k < n
    · rw [if_pos hk] at e
      cases e
      exact Rep.cut (.cell k) v (decide_eq_true hk) r
    · rw [if_neg hk] at e
      simp only [Rep] at r
      obtain ⟨a, rfl, ha⟩ := r
      have nin := notin_cut S ha hk
      cases q : h[k]? with
      | none => rw [q] at e; cases e
      | some c =>
        rw [q] at e
        have cr := S.at_ k a c ha q
        cases c with
        | lst xs =>
          simp only [Option.map_eq_some_iff, Option.bind_eq_some_iff] at e
          obtain ⟨zs, ⟨ys, e1, e2⟩, rfl⟩ := e
          obtain ⟨vs, hv, rv⟩ := cr
          simp only [Rep, RepP]
          exact ⟨a, vs, rfl, .inl ⟨.inl hv, nin⟩, plain_rep e2 (RepA.frz S xs ys vs e1 rv)⟩
        | dct t kvs => cases e
        | obj cls fs => cases e
  | p x => exact Rep.frz S (.p x) d' v e r
  | mix xs => exact Rep.frz S (.mix xs) d' v e r
  | glob x => exact Rep.frz S (.glob x) d' v e r
  | ty x => exact Rep.frz S (.ty x) d' v e r
  | fob c fs => exact Rep.frz S (.fob c fs) d' v e r
end
theorem lv_leave2 : Lv leave2 := fun T m H h m' H' h' d v Q S S' X r q => by
  unfold leave2 at q
  by_cases hl : h'.length = h.length
  · rw [if_pos hl] at q
    exact q m' H' v S' X r
  rw [if_neg hl] at q
  by_cases lo : low h.length (h'.take h.length) = true
  · rw [if_pos lo] at q
    cases e : frz2 h.length h' d with
    | none => rw [e] at q; exact q.elim
    | some d' =>
      rw [e] at q
      obtain ⟨t, et, ht⟩ := X.pre
      have hn : h.length ≤ h'.length := by rw [← S.len, ← S'.len, et, List.length_append]; omega
      have em : m'.cut h.length = m := by
        unfold Mm.cut
        rw [et, X.same, ← S.len, List.take_left]
      have S2 := S'.cut hn lo
      rw [em] at S2
      have r2 := Rep.frz2 (n := h.length) S' d d' v e r
      rw [em] at r2
      exact q m H' v S2 ⟨⟨[], by simp, by simp⟩, rfl, X.keep⟩ r2
  · rw [if_neg lo] at q; exact q.elim
/-! ### a def whose name in the module is another one -/
structure DefAs (K : PySem.W.Frag) (mg : Str → Option Value) (y x : Str) (st : Stmt) (ps : List Str) : Prop where
  ex : ∃ (f : Addr) (fd : FuncData), Fun K x x st f fd ∧ mg y = some (.ref f) ∧ Binds K fd ps []
theorem defAs_mk {K : PySem.W.Frag} {mg : Str → Option Value} {h : Heap} {x y : Str} {st : Stmt} {ps : List Str} {f : Addr} {oc : Value} {od an : Option Addr} {osl : Array (Option Value)} {kV doc pm cdv ct : Value}
    (X : K.In h) (G : h.Ns mainGlobals mg) (a : PySem.W.nsIn K mainGlobals y = some (some (.ref f)))
    (l : K.lookup f = some ⟨oc, od, .func (PySem.W.fnOf x x (defArgs st) (defBody st) (defScope st) .none kV doc pm an cdv ct), osl⟩) (c : PySem.W.codeIn K cdv x = true) (k : PySem.W.keepIn K (.ref f) = true)
    (b : ∀ (kV doc pm : Value) (an : Option Addr) (cdv ct : Value) (us : List Value), us.length = ps.length → bindArgs (PySem.W.fnOf x x (defArgs st) (defBody st) (defScope st) .none kV doc pm an cdv ct) ⟨us, []⟩ = pure (ps.zip us)) : DefAs K mg y x st ps :=
  ⟨f, _, fun_mk l c k, PySem.W.mg_of X G a, (fun_mk l c k).binds b⟩
section
variable {P : Program} {w : World} {K : PySem.W.Frag} {mg : Str → Option Value} {base : Heap}
theorem def_as {x y : Str} {st : Stmt} {N ps : List Str} {k n : Nat} {lv : Nat → D → Hm → R D} {body : Ev → M Fl} (T : DefAs K mg y x st ps) (S : FnScope N ps (defScope st)) (hlv : Lv lv) (hn : ps.length = n)
    (hb : ∀ (f : Addr) (cdv : Value) (A : Around) (outer : List Env) (s : Shared) (H : Hp) (E : XK), Room k (A.deeper (envOfC x (defScope st) s.heap.objs.size f cdv)) → (A.deeper (envOfC x (defScope st) s.heap.objs.size f cdv)).guards = some [] →
      BS (cxOf CX0 P w K mg base N x (defScope st) f cdv A outer s H E).nox E0 (defBody st) body) : Def P w K mg base (k + 1) y n (nox ∘ fnM lv N.length body) := by
  obtain ⟨f, fd, F, hm, b⟩ := T.ex
  exact ⟨f, fd, ps, fg_fn F S hlv hn fun cdv A outer s H E room gd => hb f cdv A outer s H E room gd, hm, F.kp, b⟩
end
/-! ### two lists as a new cell -/
section
variable {X : Cx} {W : XK}
def addC : PyData → PyData → M D
  | .list xs, .list ys => chk (xs.length + ys.length ≤ sizeLine) fun h => .ok (.cell h.length) (h ++ [.lst ((xs ++ ys).map .p)])
  | _, _ => bad
theorem o_addC : Op2 X W (binaryOp .Add) (rd2 addC) := by
  refine op2_of op_catL fun m H h p q v u Q S r1 r2 hp => ?_
  cases p with
  | list xs =>
    cases q with
    | list ys =>
      obtain ⟨a, vs, rfl, s1, t1⟩ := r1
      obtain ⟨b, us, rfl, s2, t2⟩ := r2
      obtain ⟨hz, hp⟩ := chk_post hp
      exact ⟨a, b, vs, us, rfl, rfl, s1, s2, by rw [t1.length, t2.length]; exact hz, new_cell S (repA_map (t1.append t2)) hp⟩
    | _ => exact hp.elim
  | _ => exact hp.elim
/-! ### upper -/
def upperP (x : D) : List D → M D
  | [] => rd1 (fun p => match p with
    | .str z => chk (z.length ≤ 5592405) (ret (.p (.str (Txt.upper z))))
    | _ => bad) x
  | _ => bad
theorem m_upper : MetS X W "str.upper" upperP := by
  intro pins s σ H v vs u us Q I rv rs ⟨m, h, x, xs, S, r1, r2, hp⟩
  cases xs with
  | nil =>
    simp only [RepA] at r2
    subst r2
    cases rs
    unfold upperP at hp
    obtain ⟨q, rq, hp⟩ := rd1_post (T := tx X W) S r1 hp
    cases q with
    | str z =>
      simp only [RdP, RepP] at rq
      subst rq
      obtain ⟨t, rfl⟩ := rv
      obtain ⟨hz, hp⟩ := chk_post hp
      exact PyProof.Rows.SCL.upper hz fun _ => ⟨.str _, H, I.tok _, ⟨_, rfl⟩, Post.ret hp S (by simp [Rep, RepP])⟩
    | _ => exact hp.elim
  | cons _ _ => exact hp.elim
/-! ### xs[::-1] -/
def revP : D → M D
  | .p (.list xs) => ret (.p (.list xs.reverse))
  | _ => bad
theorem es_revL {e : Expr} {fe : Ev → M D} {k : Nat} {p1 p2 p3 pos : Pos} (he : ES X W e fe) : ES X W (.Subscript e (.Slice none none (some (.UnaryOp .USub (.Constant (.int 1) k p1) p2)) p3) pos) (un revP fe) :=
  pe_imp (pe_revL he) fun σ H Q ⟨μ, m, h, S, V, hp⟩ => ⟨μ, m, h, S, V, Post.bnd hp fun d h1 m1 H1 v _ S1 X1 r1 hp1 => by
    cases d with
    | p x =>
      cases x with
      | list xs =>
        simp only [Rep, RepP] at r1
        obtain ⟨a, vs, rfl, f, r⟩ := r1
        exact ⟨a, vs, rfl, f.sq, new_lst S1 (RepPs.reverse r) hp1⟩
      | _ => exact hp1.elim
    | _ => exact hp1.elim⟩
end
/-! ### a, b = x, y -/
def sPar (i j : Nat) (fa : Ev → M (List D)) : Ev → M Fl := fun μ => bnd (fa μ) fun ds => match ds with
  | [d, e] => ret (.nx ((μ.set i (some d)).set j (some e)))
  | _ => bad
section
variable {X : Cx} {W : XK}
theorem ss_par {i j : Nat} {x y : Str} {a b : Expr} {fa : Ev → M (List D)} {px py pt pos : Pos} {kt k2 pt2} (ha : AS X W [a, b] fa) (hc : X.calm = true) (hN : X.N.Nodup) (hi : X.N[i]? = some x := by rfl) (hj : X.N[j]? = some y := by rfl) (hij : i ≠ j := by decide)
    (hx : X.env.scope.names.lookup x = some .local := by rfl) (hy : X.env.scope.names.lookup y = some .local := by rfl)
    (hw : swappedStores [.Tuple [.Name x px, .Name y py] kt pt] (.Tuple [a, b] k2 pt2) X.env = pure (some [x, y]) := by rfl)
    (hs : swapsWithSole [.Tuple [.Name x px, .Name y py] kt pt] (.Tuple [a, b] k2 pt2) pos.line X.env = pure false := by rfl) : SS X W (.Assign [.Tuple [.Name x px, .Name y py] kt pt] (.Tuple [a, b] k2 pt2) pos) (sPar i j fa) :=
  ps_imp (ps_par hc hN hi hj hij hx hy ha hw hs) fun E σ H ⟨μ, m, h, S, V, hp⟩ => ⟨μ, m, h, S, V, PostS.bnd hp fun ds h' m' H' vs _ S' X' r hp' => by
    split at hp'
    · rename_i d e
      simp only [RepA] at r
      obtain ⟨v, _, rfl, r1, w, _, rfl, r2, rfl⟩ := r
      exact ⟨v, w, rfl, hp' m' H' _ S' Ext.refl (((V.mono X').set r1 i).set r2 j)⟩
    · exact hp'.elim⟩
end
end MP
/-! MP18: repr of a list that holds dicts and no lists -/
namespace MP
open PySem PySem.Spec PyProof.Rows L2
section
variable {prog : Program} {w : World} {a : Addr}
/-- a list is shown by its items; of its own address nothing need be known -/
theorem shows_list {h₀ : Heap} {o : Obj} {vs : Array Value} {n : Nat} {xs : List PyData} {bs : List Addr} (h1 : h₀.get? a = some o) (h2 : o.cls = .type "list") (h3 : o.data = .seq vs n) (h4 : ReadsAll h₀ vs.toList xs bs) (hs : (PyData.list xs).showable = true) (hsm : PyData.hasDictAll xs = true → sysModules ∉ bs) (hsz : (PyData.list xs).shown.length ≤ sizeLine) : ∃ T idr, ShowsBy prog w h₀ a (.list xs) T idr := by
  have hz : (listText (PyData.shownAll xs)).length ≤ sizeLine := hsz
  obtain ⟨cs, hb, hk⟩ := ReprAllK.of_readsAll (prog := prog) (w := w) h4 (by simpa [PyData.showable] using hs) hsm (fun t ht => Nat.le_trans (listText_mem_le ht) hz)
  have hna : a ∉ cs := not_mem_of_deeper (.list h1 h2 h3 h4) (by simp only [PyData.depth]; omega) hb
  refine ⟨"list", "list.__repr__", F.slot_list_repr.toG, F.slot_list_str, F.slot_list_format, fun s k => ⟨o, k _ _ h1, h2⟩, ?_⟩
  intro A E s Q hg hu k hQ
  have hu : A.units + (PyData.depthAll xs + 1) < cLine := by simpa only [PyData.depth] using hu
  have hQ : ∀ h' u tk, (∀ b o, s.heap.get? b = some o → h'.get? b = some o) → Q (.str (listText (PyData.shownAll xs)) u) { s with heap := h', toks := tk } := hQ
  by_cases e : vs = #[]
  · subst e
    cases h4
    exact call_list_repr_empty ⟨o, k _ _ h1, h2⟩ (k _ _ h1) h3 (hQ s.heap _ _ fun _ _ e => e)
  · obtain ⟨l⟩ := vs
    cases l with
    | nil => exact absurd rfl e
    | cons x l => exact call_list_reprK h1 h2 h3 hna (by simpa using hk.length_eq) (fun i y e => hk.item i y (by simpa using e)) hg (fun b _ => Clear.nil b) hu k hQ hz
end
section
variable {X : Cx} {W : XK}
def hasListIn : PyData → Bool
  | .list xs => hasListAll xs
  | x => hasList x
def okShow2 (x : PyData) : Prop := x.showable = true ∧ x.shown.length ≤ sizeLine ∧ x.depth ≤ 60 ∧ (x.hasDict = true → hasListIn x = false)
instance (x : PyData) : Decidable (okShow2 x) := by unfold okShow2; infer_instance
theorem okShow.two {x : PyData} (h : okShow x) : okShow2 x := by
  obtain ⟨a, b, c, d⟩ := h
  refine ⟨a, b, c, fun e => ?_⟩
  have := d e
  cases x with
  | list xs => simp [hasList] at this
  | _ => exact this
def reprP2 (x : PyData) : M D := chk (okShow2 x) (ret (.p (.str x.shown)))
theorem call_reprD2 {k : Nat} (hr : Room k X.A) (hgd : X.A.guards = some []) : CallR X (.builtin "repr") fun vs H Q => ∃ v m x, vs = [v] ∧ RdP X.w X.K m H x v ∧ okShow2 x ∧ Q (.str x.shown) H := by
  intro pins s σ H vs us Q I rv h
  obtain ⟨v, m, x, rfl, r, hx, q⟩ := h
  by_cases e : okShow x
  · exact call_reprD hr hgd _ _ _ _ _ _ _ I rv ⟨v, m, x, rfl, r, e, q⟩
  · obtain ⟨h1, h2, h3, h4⟩ := hx
    cases x with
    | list xs =>
      obtain ⟨u, rfl, ru⟩ := vals1 rv
      obtain ⟨a, vs, rfl, f, h⟩ := r
      cases ru
      obtain ⟨its, rv', ⟨o, n, ho, hc, _, hd⟩, _⟩ := I.list f
      obtain ⟨as, hrd, hsys⟩ := RepPs.reads I xs vs its h rv'
      have hu : X.A.units + 64 < cLine := hr.units
      obtain ⟨T, idr, S⟩ := shows_list (prog := X.prog) (w := X.w) ho hc hd (by simpa using hrd) h1 (fun e z => absurd (hsys (h4 (by simpa only [PyData.hasDict] using e)) _ z) (by simp)) h2
      exact call_repr_slot (by omega) (S.typeIs s fun _ _ e => e) S.slotRepr (S.call X.A.in1 _ s _ hgd (by show X.A.units + 1 + _ < cLine; omega) (fun _ _ e => e) fun h' u tk hk => ⟨_, _, rfl, ⟨.str _, H, I.kept hk, ⟨u, rfl⟩, q⟩⟩)
    | _ => exact absurd ⟨h1, h2, h3, h4⟩ e
theorem c_repr2 {k : Nat} (hr : Room k X.A) (hgd : X.A.guards = some []) : CallS X W (.builtin "repr") (one reprP2) := by
  refine callS_one (call_reprD2 hr hgd) fun m H h q v Q S r hp => ?_
  obtain ⟨hz, hp⟩ := chk_post hp
  exact ⟨v, m, q, rfl, r, hz, Post.ret hp S (by simp [Rep, RepP])⟩
end
end MP
/-! MP19: f-strings of texts and ints -/
namespace MP
open PySem PySem.Spec PyProof.Rows L2
section
variable {X : Cx} {W : XK}
/-- {x} -/
def fmtP : D → M D
  | .p (.str z) => chk (z.length ≤ sizeLine) (ret (.p (.str z)))
  | .p (.int i) => chk (i.natAbs.log2 < 1920) (ret (.p (.str (toString i))))
  | _ => bad
def fmtD (f : Ev → M D) : Ev → M D := fun μ => bnd (f μ) fmtP
theorem es_fmt {e : Expr} {f : Ev → M D} {pos : Pos} (he : ES X W e f) : ES X W (.FormattedValue e (-1) none pos) (fmtD f) :=
  pe_imp (pe_fmt he) fun σ H Q ⟨μ, m, h, S, E, hp⟩ => ⟨μ, m, h, S, E, Post.bnd hp fun d h1 m1 H1 v _ S1 X1 r1 hp1 => by
    cases d with
    | p x =>
      cases x with
      | str z =>
        simp only [Rep, RepP] at r1
        obtain ⟨hz, hp1⟩ := chk_post hp1
        exact .inl ⟨z, r1, hz, Post.ret hp1 S1 (by simp [Rep, RepP])⟩
      | int i =>
        simp only [Rep, RepP] at r1
        obtain ⟨hz, hp1⟩ := chk_post hp1
        exact .inr ⟨i, r1, hz, Post.ret hp1 S1 (by simp [Rep, RepP])⟩
      | _ => exact hp1.elim
    | _ => exact hp1.elim⟩
/-- texts one behind the other -/
def joinD : List (Ev → M D) → Str → Ev → M D
  | [], acc, _ => ret (.p (.str acc))
  | f :: fs, acc, μ => bnd (f μ) fun d => match d with
    | .p (.str y) => chk ((acc ++ y).length ≤ sizeLine) (joinD fs (acc ++ y) μ)
    | _ => bad
def fstD (fs : List (Ev → M D)) : Ev → M D := joinD fs PySem.Str.empty
/-- the parts -/
inductive JS (X : Cx) (W : XK) : List Expr → List (Ev → M D) → Prop
  | nil : JS X W [] []
  | cons {e : Expr} {es : List Expr} {f : Ev → M D} {fs : List (Ev → M D)} (h : ES X W e f) (r : JS X W es fs) : JS X W (e :: es) (f :: fs)
theorem js_pj {es : List Expr} {fs : List (Ev → M D)} (h : JS X W es fs) : PJ X es (fs.map fun f => rdE (tx X W) f) := by
  induction h with
  | nil => exact .nil
  | cons h _ ih => exact .cons h ih
theorem join_run {σ : L2.St} {Q : VK} : ∀ (fs : List (Ev → M D)) (acc : Str) (H : Hp), rdE (tx X W) (joinD fs acc) σ H Q → tJs (fs.map fun f => rdE (tx X W) f) acc σ H fun out H1 => Q (.str out) H1
  | [], acc, H, ⟨μ, m, h, S, E, hp⟩ => by
    have := Post.ret hp S (show Rep X.w X.K X.mg m H (.p (.str acc)) (.str acc) by simp [Rep, RepP])
    exact this
  | f :: fs, acc, H, ⟨μ, m, h, S, E, hp⟩ => ⟨μ, m, h, S, E, Post.bnd hp fun d h1 m1 H1 v _ S1 X1 r1 hp1 => by
    cases d with
    | p x =>
      cases x with
      | str z =>
        simp only [Rep, RepP] at r1
        obtain ⟨hz, hp1⟩ := chk_post hp1
        exact ⟨z, r1, hz, join_run fs (acc ++ z) H1 ⟨μ, m1, h1, S1, E.mono X1, hp1⟩⟩
      | _ => exact hp1.elim
    | _ => exact hp1.elim⟩
theorem es_fstr {a b : Expr} {es : List Expr} {fs : List (Ev → M D)} {pos : Pos} (h : JS X W (a :: b :: es) fs) : ES X W (.JoinedStr (a :: b :: es) pos) (fstD fs) :=
  pe_imp (pe_joined (js_pj h)) fun σ H Q q => join_run fs _ H q
end
section
variable {P : Program} {w : World} {K : PySem.W.Frag} {mg : Str → Option Value} {base : Heap}
/-- a def that calls itself by way of another: two levels a step -/
theorem rec2_of {x : Str} {st : Stmt} {N ps : List Str} {k n : Nat} {lv : Nat → D → Hm → R D} {B : (List D → M D) → Ev → M Fl} (T : DefAt K mg x st ps) (S : FnScope N ps (defScope st)) (hlv : Lv lv) (hn : ps.length = n)
    (hb : ∀ (j : Nat) (F : List D → M D), k ≤ j → Def P w K mg base j x n (nox ∘ F) → ∀ (f : Addr) (cdv : Value) (A : Around) (outer : List Env) (s : Shared) (H : Hp) (E : XK), Room (j + 1) (A.deeper (envOfC x (defScope st) s.heap.objs.size f cdv)) → (A.deeper (envOfC x (defScope st) s.heap.objs.size f cdv)).guards = some [] →
      BS (cxOf CX0 P w K mg base N x (defScope st) f cdv A outer s H E).nox E0 (defBody st) (B F)) : ∀ m : Nat, Def P w K mg base (k + 1 + 2 * m) x n (nox ∘ recM lv N.length B m)
  | 0 => def_of (k := k) T S hlv hn fun f cdv A outer s H E hr gd => bs_bad
  | m + 1 => def_of (k := k + 1 + 2 * m + 1) T S hlv hn fun f cdv A outer s H E hr gd => hb (k + 1 + 2 * m) _ (by omega) (rec2_of T S hlv hn hb m) f cdv A outer s H E hr gd
end
end MP
/-! MP20: sorted(d), sorted(d.items()) of dicts whose keys are tuples. -/
namespace MP
open PySem PySem.Spec PyProof.Rows L2
open Sem (wp)
section
variable {prog : Program} {w : World}
/-- the keys of a dict, to be collected -/
theorem src_raw {d : Addr} {es : Array DictEntry} {ep : Nat} (lo : (d == sysModules) = false) : PySem.W.KdlSrc prog w "dict" d d es.size (fun i v => ∃ hi : i < es.size, v = es[i].key) (fun h => h.DictRaw d es ep) where
  type := fun _ r => r.typeIs
  there := fun _ ⟨_, ho, _⟩ => ⟨Heap.lt_size ho, Heap.lt_size ho⟩
  keep := fun _ _ r k => r.at fun o e => k d (.inr rfl) o e
  notList := by decide
  notTuple := by decide
  hint := fun _ _ _ _ r hq => PySem.W.kdl_hint_dict r.typeIs hq
  iter := fun _ s hh r => ⟨_, _, (fun _ _ hq => wpAny_pyIter_dict_raw lo r hq), Walks.rawKeys hh _ d (let ⟨_, ho, _⟩ := r; Nat.ne_of_lt (Heap.lt_size ho)) es ep,
    ⟨⟨_, Heap.get?_push_size _ rfl, rfl, rfl⟩, r.at fun _ e => Heap.get?_push_of_some _ e⟩⟩
end
section
open PySem.W
variable {X : Cx} {W : XK} {pins : List (Addr × Obj)} {σ : L2.St} {H : Hp} {s : Shared} {E : Value → Shared → Prop}
/-- what is collected is sorted in a new list -/
theorem sorted_run {k : Nat} (hr : Room k X.A) {arg : Value} {Q : VK}
    (col : wpAny (model X.prog X.w) X.A.in1 (collect arg) (fun its s1 => ∃ H1 us ds m, Inv X pins σ H1 s1 ∧ Vals us its ∧ RepPs X.w X.K m H1 ds us ∧ SortOk ds ∧ its.length ≤ sizeLine ∧
      ∀ (us' : List V) (p : Addr), RepPs X.w X.K m H1 (sortL ds) us' → us'.length ≤ sizeLine → H1 p = none → Q (.ref p) (upd H1 p (.lst us'))) E s) :
    wpAny (model X.prog X.w) X.A (call (.builtin "sorted") [arg]) (EP X pins σ Q) E s := by
  refine Calls.call_function_entry PyProof.Rows.kind_sorted PyProof.Rows.plain_sorted PyProof.Rows.entry_sorted (PyProof.Rows.args_sorted1 _) ?_
  unfold Builtin.«sorted»
  refine wpAny_bind (m := checkCount "sorted" 1 1 _) (wpAny_pure (wpAny_bind (wpAny_mono col (fun its s1 h => ?_) fun _ _ e => e)))
  obtain ⟨H1, us, ds, m, I, rv, rp, ok, hz, q⟩ := h
  have hlen0 : us.length = ds.length := rp.length
  refine wpAny_bind (wpAny_newList ?_ hz)
  have hL : (s1.heap.push (seqObj "list" its.toArray 0)).get? s1.heap.objs.size = some (seqObj "list" its.toArray 0) := Heap.get?_push_size _ rfl
  show wpAny _ _ _ _ _ { s1 with heap := s1.heap.push (seqObj "list" its.toArray 0) }
  have old : ∀ b o, s1.heap.get? b = some o → (sortingHeap (s1.heap.push (seqObj "list" its.toArray 0)) s1.heap.objs.size its).get? b = some o := fun b o e =>
    sortingHeap_old (Nat.ne_of_lt (Heap.lt_size e)) (Heap.get?_push_of_some _ e)
  have e1 := each_rep rp rv
  have hfst : (ds.zip us).map (·.1) = ds := List.map_fst_zip (Nat.le_of_eq hlen0.symm)
  have e2 : EachIs (fun v (b : PyData × V) => ∃ as, Reads (sortingHeap (s1.heap.push (seqObj "list" its.toArray 0)) s1.heap.objs.size its) v b.1 as) its (ds.zip us) := e1.mono fun v b h => by
    obtain ⟨as, r, _⟩ := RepP.reads I b.1 b.2 v h.2 h.1
    exact ⟨as, PyProof.Rows.Reads.keeps old r⟩
  have e3 : EachIs (fun v d => ∃ as, Reads (sortingHeap (s1.heap.push (seqObj "list" its.toArray 0)) s1.heap.objs.size its) v d as) its ds := by
    have go : ∀ {bs : List (PyData × V)} {vs : List Value}, EachIs (fun v (b : PyData × V) => ∃ as, Reads (sortingHeap (s1.heap.push (seqObj "list" its.toArray 0)) s1.heap.objs.size its) v b.1 as) vs bs → EachIs (fun v d => ∃ as, Reads (sortingHeap (s1.heap.push (seqObj "list" its.toArray 0)) s1.heap.objs.size its) v d as) vs (bs.map (·.1)) := by
      intro bs vs h
      induction h with
      | nil => exact .nil
      | cons h t ih => exact .cons h ih
    have := go e2
    rwa [hfst] at this
  have hu : X.A.units + 64 < cLine := hr.units
  refine wpAny_bind (wpAny_holding (wpAny_call_entry PyProof.Rows.slot_list_sort ⟨_, hL, rfl⟩ PyProof.Rows.entry_list_sort
    (list_sort_vals (s := { s1 with heap := s1.heap.push (seqObj "list" its.toArray 0) }) hL (sortsAt_data (s := { s1 with heap := sortingHeap (s1.heap.push (seqObj "list" its.toArray 0)) s1.heap.objs.size its }) e3 ok (by show X.A.in1.in1.units + 60 < cLine; simp only [Around.in1]; omega)) hz ⟨_, rfl, ?_⟩)
    (PyProof.Rows.args_list_sort _)))
  have e4 := sort_each e1 e2
  rw [hfst] at e4
  obtain ⟨k1, k2⟩ := each_back (X := X) e4
  have es : ((ds.zip us).mergeSort (PySem.W.dataLe false (·.1))).map (·.1) = sortL ds := by
    have := List.map_mergeSort (r := PySem.W.dataLe false (·.1)) (s := PySem.W.dataLe false id) (f := fun b : PyData × V => b.1) (l := ds.zip us) (fun a _ b _ => rfl)
    rw [this]
    show ((ds.zip us).map (·.1)).mergeSort (PySem.W.dataLe false id) = sortL ds
    rw [hfst]
    rfl
  rw [es] at k2
  obtain ⟨ep, he'⟩ := PyProof.Rows.sortedHeap_at (vs := its) (out := (sortVals (dataKind (sortingHeap (s1.heap.push (seqObj "list" its.toArray 0)) s1.heap.objs.size its) ds) false its its).toArray) hL
  have hus : us.length = its.length := rv.length
  have hlen : (((ds.zip us).mergeSort (PySem.W.dataLe false (·.1))).map (·.2)).length ≤ sizeLine := by
    rw [List.length_map, List.length_mergeSort, List.length_zip, hlen0, Nat.min_self, ← hlen0, hus]
    exact hz
  refine wpAny_pure ⟨_, rfl, .ref _, upd H1 s1.heap.objs.size (.lst _), I.laid (t' := s1.toks) (fun b o e => ?_) (Nat.le_refl _) ⟨hlen, _, ep, k1, he'⟩, rfl, q _ _ k2 hlen (I.hok.fresh (Nat.le_refl _))⟩
  have hb := Heap.lt_size e
  rw [PyProof.Rows.sortedHeap_old (Nat.ne_of_lt hb) (by rw [size_push']; exact Nat.lt_succ_of_lt hb)]
  exact Heap.get?_push_of_some _ e
/-- rows, place by place -/
theorem repPs_of {w : World} {K : PySem.W.Frag} {m : Mm} {H : Hp} : ∀ {ds : List PyData} {us : List V}, ds.length = us.length → (∀ (i : Nat) d u, ds[i]? = some d → us[i]? = some u → RepP w K m H d u) → RepPs w K m H ds us
  | [], [], _, _ => by simp only [RepPs]
  | [], _ :: _, h, _ => by cases h
  | _ :: _, [], h, _ => by cases h
  | d :: ds, u :: us, h, g => by
    simp only [RepPs]
    exact ⟨u, us, rfl, g 0 d u rfl rfl, repPs_of (Nat.succ.inj h) fun i d u e1 e2 => g (i + 1) d u (by simpa using e1) (by simpa using e2)⟩
theorem repPs_get {w : World} {K : PySem.W.Frag} {m : Mm} {H : Hp} : ∀ {ds : List PyData} {us : List V}, RepPs w K m H ds us → ∀ (i : Nat) d, ds[i]? = some d → ∃ u, us[i]? = some u ∧ RepP w K m H d u
  | [], us, _, i, d, e => by simp at e
  | x :: ds, us, h, i, d, e => by
    simp only [RepPs] at h
    obtain ⟨v, r, rfl, h1, h2⟩ := h
    cases i with
    | zero =>
      simp only [List.getElem?_cons_zero, Option.some.injEq] at e
      subst e
      exact ⟨v, rfl, h1⟩
    | succ i => exact repPs_get h2 i d (by simpa using e)
def pairP (p : PyData × PyData) : PyData := .tuple [p.1, p.2]
/-- the pairs of a dict of deep keys, collected: new tuples -/
theorem items_col {m : Mm} {h : Hm} {xs : List (NestedKey × Addr × Value)} {kvs : List (PyData × PyData)} {vs : List V} (I : Inv X pins σ H s) (S : Sim X.w X.K X.mg m H h) {es : Array DictEntry} (hes : es.toList = xs.map (entN X.w)) {h' : Heap} {tk : Nat} {as : List Addr}
    (hk : ∀ b o, s.heap.get? b = some o → h'.get? b = some o) (hl : as.length = es.size) (hG : DT.Made es s.heap.objs.size h' as) (e1 : keysD xs = kvs.map (·.1)) (rk : RepPs X.w X.K m H (kvs.map (·.1)) (keysV xs)) (rv : Vals vs (xs.map (·.2.2))) (rr : RepPs X.w X.K m H (kvs.map (·.2)) vs) :
    ∃ H2, Inv X pins σ H2 { s with heap := h', toks := tk } ∧ Sim X.w X.K X.mg m H2 h ∧ Ext m H m H2 ∧ RepPs X.w X.K m H2 (kvs.map pairP) (as.map V.ref) := by
  have nd : as.Nodup := List.Pairwise.imp (fun {a b} (h : a < b) => Nat.ne_of_lt h) hG.rise
  have lx : xs.length = kvs.length := by
    have := congrArg List.length e1
    simpa [keysD] using this
  have lv : vs.length = xs.length := by have := rv.length; simpa using this
  have le : es.size = xs.length := by rw [← Array.length_toList, hes, List.length_map]
  have I1 : Inv X pins σ H { s with heap := h', toks := tk } := I.kept hk
  have fresh : ∀ c ∈ as, H c = none := fun c hc => I.hok.fresh (Nat.le_of_lt (hG.above c hc))
  obtain ⟨H2, I2, g, q⟩ := L2.DX.takeT (P := fun c us => ∃ (j : Nat) (x : NestedKey × Addr × Value) (u : V), as[j]? = some c ∧ xs[j]? = some x ∧ vs[j]? = some u ∧ us = [V.ref x.2.1, u]) I as H I1 nd fun c hc => by
    obtain ⟨j, hj⟩ := List.getElem?_of_mem hc
    obtain ⟨e, he, ho⟩ := hG.pairs j c hj
    have hj' : j < xs.length := by
      have := (Array.getElem?_eq_some_iff.mp he).1
      omega
    have ex : xs[j]? = some xs[j] := List.getElem?_eq_getElem hj'
    have ee : e = entN X.w xs[j] := by
      have : es.toList[j]? = some e := by rw [Array.getElem?_toList]; exact he
      rw [hes, List.getElem?_map, ex] at this
      exact (Option.some.inj this).symm
    have ev : vs[j]? = some vs[j] := List.getElem?_eq_getElem (by omega)
    obtain ⟨u, hu, ru⟩ := rv.get ev
    rw [List.getElem?_map, ex] at hu
    cases hu
    refine ⟨Nat.le_of_lt (hG.above c hc), fresh c hc, [V.ref xs[j].2.1, vs[j]], ⟨j, _, _, hj, ex, ev, rfl⟩, fun H2 => ⟨by show 2 ≤ sizeLine; decide, [.ref xs[j].2.1, xs[j].2.2], .cons rfl (.cons ru .nil), ⟨_, ho, rfl, 0, ?_⟩⟩⟩
    rw [ee]; rfl
  have notm : ∀ c ∈ as, c ∉ m := fun c hc => S.notin (fresh c hc)
  have X2 : Ext m H m H2 := ⟨⟨[], by simp, by simp⟩, rfl, fun b o e _ => g b o e⟩
  have S2 : Sim X.w X.K X.mg m H2 h := by
    refine ⟨S.len, S.nd, fun c hc => ⟨?_, (S.pv c hc).2⟩, fun n c d hc hd => (S.at_ n c d hc hd).mono X2 ?_⟩
    · obtain ⟨o, ho⟩ := Option.isSome_iff_exists.mp (S.pv c hc).1
      rw [g c o ho]; rfl
    · obtain ⟨o, ho⟩ := Option.isSome_iff_exists.mp (S.isSomec (List.mem_of_getElem? hc))
      rw [ho, g c o ho]
  refine ⟨H2, I2, S2, X2, repPs_of (by simp only [List.length_map]; omega) fun i d u ed eu => ?_⟩
  rw [List.getElem?_map] at ed eu
  obtain ⟨kv, ekv, rfl⟩ := Option.map_eq_some_iff.mp ed
  obtain ⟨c, ec, rfl⟩ := Option.map_eq_some_iff.mp eu
  obtain ⟨us, ⟨j, x, u, hj, hx, hu, rfl⟩, hc⟩ := q c (List.mem_of_getElem? ec)
  have ij : j = i := by
    have li : i < as.length := (List.getElem?_eq_some_iff.mp ec).1
    have := (List.getElem?_inj li nd (j := j)).mp (ec.trans hj.symm)
    exact this.symm
  subst ij
  obtain ⟨k1, h1, r1⟩ := repPs_get (rk.mono X2) j kv.1 (by rw [List.getElem?_map, ekv]; rfl)
  obtain ⟨k2, h2, r2⟩ := repPs_get (rr.mono X2) j kv.2 (by rw [List.getElem?_map, ekv]; rfl)
  simp only [keysV, List.getElem?_map, hx, Option.map_some, Option.some.injEq] at h1
  rw [hu] at h2
  cases h2
  simp only [pairP, RepP]
  refine ⟨c, _, rfl, .inl ⟨hc, notm c (List.mem_of_getElem? ec)⟩, ?_⟩
  simp only [RepPs]
  exact ⟨_, _, rfl, by rw [h1]; exact r1, _, _, rfl, r2, rfl⟩
/-- a dict of deep keys, as data -/
def dctP (h : Hm) : D → Option (List (PyData × PyData))
  | .cell n => (match h[n]? with
    | some (.dct true kvs) => (plain (kvs.map (·.2))).map fun vs => (kvs.map (·.1)).zip vs
    | _ => none)
  | .p (.dict kvs) => if kvs.all (fun p => (tk p.1).isSome) = true then some kvs else none
  | _ => none
theorem dctP_rep {m : Mm} {h : Hm} (S : Sim X.w X.K X.mg m H h) {x : D} {v : V} {kvs : List (PyData × PyData)} (r : Rep X.w X.K X.mg m H x v) (e : dctP h x = some kvs) :
    ∃ a xs vs, v = .ref a ∧ DN X.w H a xs ∧ keysD xs = kvs.map (·.1) ∧ RepPs X.w X.K m H (kvs.map (·.1)) (keysV xs) ∧ Vals vs (xs.map (·.2.2)) ∧ RepPs X.w X.K m H (kvs.map (·.2)) vs := by
  unfold dctP at e
  split at e
  · rename_i n
    simp only [Rep] at r
    obtain ⟨a, rfl, ha⟩ := r
    split at e
    · rename_i kvs' e1
      obtain ⟨vs, rv, hv⟩ := S.at_ n a _ ha e1
      rcases hv with ⟨z, _⟩ | ⟨_, xs, dn, f1, f2, f3⟩
      · cases z
      · simp only [Option.map_eq_some_iff] at e
        obtain ⟨ys, ep, rfl⟩ := e
        have rp := plain_rep ep rv
        have hl : (kvs'.map (·.1)).length = ys.length := by
          have h1 := rp.length
          have h2 := rv.length
          simp only [List.length_map] at h2 ⊢
          omega
        have e1 : ((kvs'.map (·.1)).zip ys).map (·.1) = kvs'.map (·.1) := List.map_fst_zip (Nat.le_of_eq hl)
        have e2 : ((kvs'.map (·.1)).zip ys).map (·.2) = ys := List.map_snd_zip (Nat.le_of_eq hl.symm)
        exact ⟨a, xs, vs, rfl, dn, by rw [e1]; exact f1, by rw [e1]; exact f2, f3, by rw [e2]; exact rp⟩
    · cases e
  · rename_i kvs'
    split at e
    · rename_i hall
      cases e
      simp only [Rep, RepP] at r
      obtain ⟨a, ks, vs, rfl, ⟨_, f⟩, hk, hv⟩ := r
      rcases f with ⟨kk, k0, hd, e1, e2⟩ | ⟨xs, dn, e1, rfl, e3⟩
      · exfalso
        cases kk with
        | nil => exact k0 rfl
        | cons z zs =>
          cases kvs with
          | nil => simp at e1
          | cons p r =>
            simp only [List.map_cons, List.cons.injEq] at e1
            simp only [List.all_cons, Bool.and_eq_true] at hall
            rw [← e1.1] at hall
            cases hz : z.1 with
            | inl i => rw [hz] at hall; exact absurd hall.1 (by simp [keyP, tk])
            | inr i => rw [hz] at hall; exact absurd hall.1 (by simp [keyP, tk])
      · exact ⟨a, xs, vs, rfl, dn, e1, repKs_iff.mp hk, e3, repVs_iff.mp hv⟩
    · cases e
  · cases e
theorem dn_rawE {a : Addr} {xs : List (NestedKey × Addr × Value)} (I : Inv X pins σ H s) (d : DN X.w H a xs) : ∃ es ep, s.heap.DictRaw a es ep ∧ es.toList = xs.map (entN X.w) ∧ es.size ≤ sizeLine := by
  obtain ⟨o, es, ep, ho, hx, hd, he⟩ := dn_raw I d
  exact ⟨es, ep, ⟨o, ho, hx, hd⟩, he, by rw [← Array.length_toList, he, List.length_map]; exact d.sz⟩
/-! sorted(d) -/
open Classical in
noncomputable def sortKD : List D → M D
  | [x] => fun h => match dctP h x with
    | some kvs => chk (SortOk (kvs.map (·.1))) (ret (.p (.list (sortL (kvs.map (·.1)))))) h
    | none => .bad
  | _ => bad
open Classical in
theorem c_sortK {k : Nat} (hr : Room k X.A) (hc : X.calm = true) : CallS X W (.builtin "sorted") sortKD := by
  intro pins s σ H vs us Q I rv ⟨m, h, ds, S, r, hp⟩
  cases ds with
  | nil => exact hp.elim
  | cons x ds =>
    cases ds with
    | cons _ _ => exact hp.elim
    | nil =>
      simp only [RepA] at r
      obtain ⟨v, _, rfl, rx, rfl⟩ := r
      simp only [sortKD] at hp
      cases e : dctP h x with
      | none => rw [e] at hp; exact hp.elim
      | some kvs =>
        rw [e] at hp
        obtain ⟨ok, hp⟩ := chk_post hp
        obtain ⟨a, xs, vs', rfl, dn, e1, rk, _, _⟩ := dctP_rep S rx e
        rw [Vals.ref1 rv]
        obtain ⟨es, ep, raw, hes, hz⟩ := dn_rawE I dn
        refine sorted_run hr (PySem.W.kdu_collect (src_raw dn.sys) (I.ok.hd hc) raw hz fun h' tk acc hk hacc => ?_)
        have hl : acc.size = xs.length := by rw [hacc.1, ← Array.length_toList, hes, List.length_map]
        have rvk : Vals (keysV xs) acc.toList := by
          have go : ∀ (ys : List (NestedKey × Addr × Value)) (us : List Value), us.length = ys.length → (∀ (j : Nat) (v : Value), us[j]? = some v → ∃ y : NestedKey × Addr × Value, ys[j]? = some y ∧ v = Value.ref y.2.1) → Vals (keysV ys) us := by
            intro ys
            induction ys with
            | nil => intro us hl _; cases us with
              | nil => exact .nil
              | cons _ _ => cases hl
            | cons y ys ih => intro us hl hv; cases us with
              | nil => cases hl
              | cons u us =>
                obtain ⟨y', e1, e2⟩ := hv 0 u rfl
                simp only [List.getElem?_cons_zero, Option.some.injEq] at e1
                subst e1
                exact .cons e2 (ih us (Nat.succ.inj hl) fun j v e => by simpa using hv (j + 1) v (by simpa using e))
          refine go xs acc.toList (by simpa using hl) fun j v ej => ?_
          obtain ⟨hi, rfl⟩ := hacc.2 j v (by rw [← Array.getElem?_toList]; exact ej)
          have hj : j < xs.length := by rw [← hl, hacc.1]; exact hi
          refine ⟨xs[j], List.getElem?_eq_getElem hj, ?_⟩
          have : es.toList[j]? = some es[j] := by rw [Array.getElem?_toList]; exact Array.getElem?_eq_getElem hi
          rw [hes, List.getElem?_map, List.getElem?_eq_getElem hj] at this
          rw [← Option.some.inj this]; rfl
        refine ⟨H, keysV xs, kvs.map (·.1), m, I.kept hk, rvk, rk, ok, by simpa using (show acc.size ≤ sizeLine by rw [hl]; exact dn.sz), fun us' p r' hl np => new_lst S r' hp p np⟩
/-! sorted(d.items()) -/
open Classical in
noncomputable def sortItD : D → M D := fun x h => match dctP h x with
  | some kvs => if isTyD "dict" h x = true then chk (SortOk (kvs.map pairP)) (ret (.p (.list (sortL (kvs.map pairP))))) h else .bad
  | none => .bad
open Classical in
theorem es_sortItems {k : Nat} {e : Expr} {fe : Ev → M D} {p apos cpos pos : Pos} (hr : Room k X.A) (hc : X.calm = true) (hg : Gl X "sorted") (hm : X.mg "sorted" = none) (hv : bootBuiltins "sorted" = some (.builtin "sorted")) (he : ES X W e fe)
    (hbase : attributeBase e "items" X.env (eval e X.env) = eval e X.env := by rfl) (hline : (apos.endLine == cpos.line) = true := by rfl)
    (hs : starEach [.Call (.Attribute e "items" apos) [] [] cpos] X.env = (false, eval (.Call (.Attribute e "items" apos) [] [] cpos) X.env) :: starEach [] X.env := by rfl) :
    ES X W (.Call (.Name "sorted" p) [.Call (.Attribute e "items" apos) [] [] cpos] [] pos) (un sortItD fe) := by
  refine ⟨fun pins s σ H Q I ⟨μ, m, h, S, V, hp⟩ => ?_⟩
  refine wpAny_Call_Name_kw (ld_blt I hg hm hv ?_)
  refine PyProof.Rows.callWith_builtin1 ?_ hs rfl
  rw [hs]
  refine Calls.spliced_cons ?_
  refine wpAny_Call_method_late hbase rfl hline rfl (thn (he.run pins s σ H (fun v H1 => ∃ x m1 h1, Sim X.w X.K X.mg m1 H1 h1 ∧ Rep X.w X.K X.mg m1 H1 x v ∧ Post (tx X W) m1 H1 (Rep X.w X.K X.mg) (sortItD x h1) Q) I ⟨μ, m, h, S, V, Post.bnd hp fun x h1 m1 H1 v _ S1 X1 r1 hp1 => ⟨x, m1, h1, S1, r1, hp1⟩⟩)
    fun u s1 ⟨v, H1, I1, rx, x, m1, h1, S1, r1, hp1⟩ => ?_)
  simp only [sortItD] at hp1
  cases e : dctP h1 x with
  | none => rw [e] at hp1; exact hp1.elim
  | some kvs =>
    rw [e] at hp1
    by_cases ty : isTyD "dict" h1 x = true
    · simp only [if_pos ty] at hp1
      obtain ⟨ok, hp1⟩ := chk_post hp1
      obtain ⟨a, xs, vs', rfl, dn, e1, rk, rv, rr⟩ := dctP_rep S1 r1 e
      obtain ⟨t1, t2⟩ := tyW_is I1 rx (tyV_of S1 r1 ty)
      obtain rfl : u = Value.ref a := rx
      obtain ⟨es, ep, raw, hes, hz⟩ := dn_rawE I1 dn
      refine ⟨"dict", _, PySem.F.plainAttrs_dict, PySem.F.slot_dict_items, PySem.F.type_dict_items, t1, t2, ?_⟩
      refine method_meetsIn PySem.F.slot_dict_items PySem.F.entry_dict_items rfl (PySem.evalArgs_none ⟨rfl, t1, PySem.F.args_dict_items_1 _, _, meets_dict_items_raw a dn.sys, ⟨es, ep, raw⟩, ?_⟩)
      refine Calls.spliced_nil ?_
      have I2 : Inv X pins σ H1 { s1 with heap := s1.heap.push { cls := .type "dict_items", data := .fields #[.ref a] } } := I1.kept (t' := s1.toks) fun b ob q => Heap.get?_push_of_some _ q
      refine sorted_run (s := { s1 with heap := s1.heap.push { cls := .type "dict_items", data := .fields #[.ref a] } }) hr (DT.collectI (es := es) (ep := ep) (I.ok.hd hc) (r := s1.heap.objs.size) (d := a) ⟨_, Heap.get?_push_size _ rfl, rfl, rfl⟩ (raw.at fun _ q => Heap.get?_push_of_some _ q) hz fun h' tk as hk hlt hl hG => ?_)
      obtain ⟨H2, I3, S3, X3, rp⟩ := items_col (tk := tk) I2 S1 hes hk hl hG e1 rk rv rr
      refine ⟨H2, as.map L2.V.ref, kvs.map pairP, m1, I3, LiI.vals_refs as, rp, ok, by rw [List.length_map, hl]; exact hz, fun us' p r' hl' np => ?_⟩
      have hp2 : Post (tx X W) m1 H2 (Rep X.w X.K X.mg) (ret (D.p (.list (sortL (kvs.map pairP)))) h1) Q := fun m' H' b Sx Xx rx => hp1 m' H' b Sx (X3.then S3 Xx) rx
      exact new_lst S3 r' hp2 p np
    · simp only [if_neg ty] at hp1; exact hp1.elim
end
end MP
/-! MP21: enumerate of a tuple; reversed; dicts of deep keys that are walked. -/
namespace MP
open PySem PySem.Spec PyProof.Rows L2
open Sem (wp)
/-! ### enumerate of a tuple -/
section
set_option maxHeartbeats 1000000 in
theorem meets_enumT (l : Addr) (items : Array Value) :
    Meets (Builtin.«enumerate.__new__» ⟨[.type "enumerate", .ref l], []⟩) (fun _ R s => s.heap.IsTuple l items ∧
      R (.ok (.ret (.ref (s.heap.push { cls := .type "tuple_iterator", data := .fields #[.ref l, .int 0 0] }).objs.size)))
        { s with heap := (s.heap.push { cls := .type "tuple_iterator", data := .fields #[.ref l, .int 0 0] }).push { cls := .type "enumerate", data := .fields #[.none, .bool false, .ref s.heap.objs.size, rawInt 0, .none, .none] } }) :=
  .of_wp fun prog w A R s ⟨hl, h⟩ => by
    obtain ⟨hp, g, d, tk, os⟩ := s
    have hsub := sub_enumerate
    obtain ⟨⟨c, dct, dt, sl⟩, ho, hc, n, hd⟩ := id hl
    simp only at hc hd
    subst hc hd
    wp_walk using wpAny_loadPart' ho
    refine wpAny_stack_any fun st => wpAny_pure ?_
    split
    · rename_i c _ _ _ _ _
      cases (c == Value.type "enumerate")
      · wp_walk using wpAny_loadPart' ho, wpAny_pyIter_tuple hl
        exact ⟨_, rfl, h⟩
      · wp_walk using wpAny_loadPart' ho, wpAny_pyIter_tuple hl
        exact ⟨_, rfl, h⟩
    · wp_walk using wpAny_loadPart' ho, wpAny_pyIter_tuple hl
      exact ⟨_, rfl, h⟩
variable {prog : Program} {w : World} {A : Around} {E : Value → Shared → Prop} {s : Shared}
theorem call_enumT {l : Addr} {items : Array Value} {Q : Value → Shared → Prop} (hL : s.heap.IsTuple l items)
    (h : ∀ h', IsEnum h' (s.heap.objs.size + 1) s.heap.objs.size 0 .none → h'.IsTupleIter s.heap.objs.size l 0 → h'.objs.size = s.heap.objs.size + 2 →
      (∀ b o, s.heap.get? b = some o → h'.get? b = some o) → Q (.ref (s.heap.objs.size + 1)) { s with heap := h' }) :
    wpAny (model prog w) A (call (.type "enumerate") [.ref l]) Q E s := by
  refine callType_new F.called_enumerate (by decide) (F.typeCall_enumerate_1 _) (F.newCall_enumerate_1 _) (fun obj => F.args_object_init_2 obj _) F.entry_enumerate_new (meets_enumT l items) ⟨hL, ?_⟩
  have hz : (s.heap.push { cls := .type "tuple_iterator", data := .fields #[.ref l, .int 0 0] }).objs.size = s.heap.objs.size + 1 := Heap.size_push ..
  show _ ∧ _
  rw [hz]
  have he : IsEnum ((s.heap.push { cls := .type "tuple_iterator", data := .fields #[.ref l, .int 0 0] }).push
      { cls := .type "enumerate", data := .fields #[.none, .bool false, .ref s.heap.objs.size, rawInt 0, .none, .none] }) (s.heap.objs.size + 1) s.heap.objs.size 0 .none := by
    have q := Heap.get?_push_size (s.heap.push { cls := .type "tuple_iterator", data := .fields #[.ref l, .int 0 0] }) (o := { cls := .type "enumerate", data := .fields #[.none, .bool false, .ref s.heap.objs.size, rawInt 0, .none, .none] }) rfl
    rwa [hz] at q
  refine ⟨⟨_, he, rfl⟩, h _ he ⟨_, Heap.get?_push_of_some _ (Heap.get?_push_size _ rfl), rfl, rfl⟩ (by rw [Heap.size_push, hz]) fun b o x => Heap.get?_push_of_some _ (Heap.get?_push_of_some _ x)⟩
end
def IteT (K : PySem.W.Frag) (a : Addr) : It :=
  ⟨fun i H => ∃ xs x, SqT K H a xs ∧ xs[i]? = some x, fun i H v H' => ∃ T y, v = .ref T ∧ H T = none ∧ H' = upd H T (.tup [.int (i : Nat), y]) ∧ ∀ xs, SqT K H a xs → xs[i]? = some y, fun i H => ∃ xs, SqT K H a xs ∧ xs.length = i⟩
theorem turn_enumT {P : Program} {w : World} {K : PySem.W.Frag} {elts : List Expr} {kk : Nat} {tpos : Pos} (a e it : Addr) (hea : e ≠ a) (hia : it ≠ a) :
    Turn P w K (.Tuple elts kk tpos) (IteT K a) [e, it] e (fun i h => (∃ old, IsEnum h e it ((i : Nat) : Int) old) ∧ h.IsTupleIter it a i ∧ e ≠ it) where
  mem := by simp
  obj := fun i h st b hb => by
    obtain ⟨⟨old, he⟩, ⟨o, ho, hc, hd⟩, _⟩ := st
    rcases (by simpa using hb : b = e ∨ b = it) with rfl | rfl
    · exact ⟨_, he, fun v q => nomatch q⟩
    · exact ⟨o, ho, fun v q => by rw [hd] at q; cases q⟩
  keep := fun i h h' st k => let ⟨⟨old, he⟩, hi, hne⟩ := st; ⟨⟨old, k e (by simp) _ he⟩, hi.at fun o q => k it (by simp) o q, hne⟩
  item := by
    intro X hP hw hK hc i pins s σ H E I hf st ⟨xs, x, hq, hx⟩
    subst hP hw hK
    obtain ⟨⟨old, he⟩, hit, hne⟩ := st
    obtain ⟨its, rv, p, hz⟩ := I.tuple hq
    obtain ⟨u, hu, ru⟩ := rv.get hx
    have hel : e < s.heap.objs.size := Heap.lt_size he
    have hil : it < s.heap.objs.size := by obtain ⟨_, q, _⟩ := hit; exact Heap.lt_size q
    have pT : s.heap.IsTuple a its.toArray := p
    have hi : i < its.toArray.size := by
      have := (List.getElem?_eq_some_iff.mp hu).1
      simpa using this
    refine wpAny_pyNext_enum_itemD (PySem.Draws.tuple (A := X.A.in1) (I.ok.hd hc) it a hia.symm its.toArray) he ⟨hit, pT⟩ hi hne (by simp [hne, hea]) fun y h' tk hy ho' st' hT hsz hk => ?_
    have ey : y = u := by
      have hy' : its.toArray[i]? = some y := hy
      simp only [List.getElem?_toArray] at hy'
      rw [hu] at hy'
      exact (Option.some.inj hy').symm
    subst ey
    refine ⟨_, rfl, wpAny_letOwnedTupleGo_enum (s := { s with heap := h', toks := tk + 1 }) ho' fun h'' he' sb => ?_⟩
    have hT2 : h''.get? s.heap.objs.size = some { cls := .type "tuple", data := .seq #[.int i tk, y] } := (sb.2 _ (Nat.ne_of_gt hel)).trans hT
    have nw : ObjOk X.prog X.w (upd H s.heap.objs.size (.tup [.int (i : Nat), x])) h'' s.heap.objs.size (.tup [.int (i : Nat), x]) := ⟨by show 2 ≤ sizeLine; decide, [.int i tk, y], .cons ⟨_, rfl⟩ (.cons ru .nil), ⟨_, hT2, rfl, _, rfl⟩⟩
    have I1 : Inv X pins σ (upd H s.heap.objs.size (.tup [.int (i : Nat), x])) { s with heap := h'', toks := tk + 1 } :=
      I.turnedNew (t' := tk + 1) (ch := [e, it]) (fun b ob hb q => (sb.2 b (fun z => hb (by simp [z]))).trans (hk b ob (fun z => hb (by simp [z])) (fun z => hb (by simp [z])) q)) hf (Nat.le_refl _) nw
    have he2 : IsEnum h'' e it ((i + 1 : Nat) : Int) y := by
      have e1 : ((i + 1 : Nat) : Int) = (i : Int) + 1 := by omega
      rw [e1]; exact he'
    refine ⟨.ref s.heap.objs.size, _, I1, rfl, ⟨_, x, rfl, I.hok.fresh (Nat.le_refl _), rfl, fun ys hy => by rw [I.tuple_inj hy hq]; exact hx⟩, ⟨⟨y, he2⟩, st'.1.at fun o q => (sb.2 it (Ne.symm hne)).trans q, hne⟩, fun b hb => ?_⟩
    have hb' : b < s.heap.objs.size := by
      rcases (by simpa using hb : b = e ∨ b = it) with rfl | rfl
      · exact hel
      · exact hil
    rw [upd_ne (Nat.ne_of_lt hb')]
    exact (hf b hb).1
  done := by
    intro X hP hw hK hc i pins s σ H E I hf st ⟨xs, hq, hx⟩
    subst hP hw hK
    obtain ⟨⟨old, he⟩, hit, hne⟩ := st
    obtain ⟨its, rv, p, hz⟩ := I.tuple hq
    obtain ⟨f0, f1, f2, f3, f4, f5⟩ := hf it (by simp)
    have hl := rv.length
    have pT : s.heap.IsTuple a its.toArray := p
    have e0 : i = its.toArray.size := by simp; omega
    subst e0
    exact wpAny_pyNext_enum_endD (PySem.Draws.tuple (A := X.A.in1) (I.ok.hd hc) it a hia.symm its.toArray) he ⟨hit, pT⟩ fun h' eb => ⟨rfl, I.turned (t' := s.toks) (fun b o hb q => eb b o hb q) f0 f1 f3 f4 f5⟩
  self := fun A i s Q E st h => let ⟨⟨_, he⟩, _⟩ := st; wpAny_pyIter_enum he h
theorem walks_enumT {T : Tx} {m : Mm} {H : Hp} {a : Addr} {vs : List V} {ds : List D} (f : FzT T.K m H a vs) (r : RepA T.w T.K T.mg m H ds vs) : WalksD T m H (IteT T.K a) (ds.zipIdx.map fun p => pairD (.p (.int (p.2 : Nat))) p.1) := by
  refine ⟨fun m' H' h' X S i d e => ?_, fun m' H' h' X S => ⟨vs, (f.mov X).sq, ?_⟩⟩
  · simp only [List.getElem?_map, List.getElem?_zipIdx, Option.map_eq_some_iff] at e
    obtain ⟨q, ⟨x, e, rfl⟩, rfl⟩ := e
    obtain ⟨v, hv, rv⟩ := repA_at r e
    refine ⟨⟨vs, v, (f.mov X).sq, hv⟩, fun z H2 hy => ?_⟩
    obtain ⟨Tt, y, rfl, nT, rfl, k1⟩ := hy
    have c1 := k1 vs (f.mov X).sq
    rw [hv] at c1
    cases c1
    simp only [Nat.zero_add]
    exact pair_new (d := .p (.int (i : Nat))) (x := .int (i : Nat)) S nT (by simp only [Rep, RepP]) (Rep.mov X _ _ rv)
  · simp only [List.length_map, List.length_zipIdx, r.length]
def iEnumT (K : PySem.W.Frag) (ta : TA) : TI := fun σ H R => ta σ H fun vs H1 => ∃ a xs, vs = [.ref a] ∧ SqT K H1 a xs ∧ R (IteT K a) H1
theorem pi_enumT {X : Cx} {e : Expr} {ta : TA} {p pos tpos : Pos} {elts : List Expr} {kk : Nat} (hg : Gl X "enumerate") (hm : X.mg "enumerate" = none) (ha : PA X [e] ta) (hs : starEach [e] X.env = [(false, eval e X.env)] := by rfl) :
    PI X (.Tuple elts kk tpos) (.Call (.Name "enumerate" p) [e] [] pos) (iEnumT X.K ta) := by
  refine ⟨fun pins s σ H R I h => ?_⟩
  refine Call_ (ld_blt I hg hm boot_enumerate (PyProof.Rows.callWith_type1 (thn (ha.run pos pins s σ H _ I h) fun us s1 ⟨vs, H1, I1, r1, a, xs, ex, hq, q⟩ => ?_) hs rfl))
  subst ex
  rw [Vals.ref1 r1]
  obtain ⟨its, rv, pT, hz⟩ := I1.tuple hq
  have pT : s1.heap.IsTuple a its.toArray := pT
  have la : a < s1.heap.objs.size := let ⟨_, e, _⟩ := pT; Heap.lt_size e
  refine call_enumT pT fun h' he hit hsz hk => wpAny_pyIter_enum he ?_
  refine ⟨s1.heap.objs.size + 1, [s1.heap.objs.size + 1, s1.heap.objs.size], _, _, H1, rfl, I1.kept (t' := s1.toks) hk, turn_enumT a (s1.heap.objs.size + 1) s1.heap.objs.size (Nat.ne_of_gt (Nat.lt_succ_of_lt la)) (Nat.ne_of_gt la), ⟨⟨.none, he⟩, hit, Nat.succ_ne_self _⟩, fun b hb => ?_, q⟩
  have hle : s1.heap.objs.size ≤ b := by
    rcases (by simpa using hb : b = s1.heap.objs.size + 1 ∨ b = s1.heap.objs.size) with rfl | rfl
    · exact Nat.le_succ _
    · exact Nat.le_refl _
  exact I1.fpOk hle (I1.hok.fresh hle)
/-- enumerate of a tuple -/
def itEnumT (f : Ev → M (List D)) : Ev → M (List D) := fun μ => bnd (f μ) fun ds => match ds with
  | [x] => (match itemsT x with
    | some xs => ret (xs.zipIdx.map fun p => pairD (.p (.int (p.2 : Nat))) p.1)
    | none => bad)
  | _ => bad
section
variable {X : Cx} {W : XK}
theorem is_enumT {e : Expr} {fa : Ev → M (List D)} {p pos tpos : Pos} {elts : List Expr} {kk : Nat} (hg : Gl X "enumerate") (hm : X.mg "enumerate" = none) (ha : AS X W [e] fa) (hs : starEach [e] X.env = [(false, eval e X.env)] := by rfl) :
    IS X W (.Tuple elts kk tpos) (.Call (.Name "enumerate" p) [e] [] pos) (itEnumT fa) :=
  pi_imp (pi_enumT hg hm ha hs) fun σ H Q ⟨μ, m, h, S, V, hp⟩ => ⟨μ, m, h, S, V, Post.bnd hp fun ds h1 m1 H1 vs _ S1 X1 r1 hp1 => by
    split at hp1
    · rename_i x _
      simp only [RepA] at r1
      obtain ⟨v, _, rfl, rx, rfl⟩ := r1
      cases q : itemsT x with
      | none => rw [q] at hp1; exact hp1.elim
      | some xs =>
        rw [q] at hp1
        obtain ⟨a, us, rfl, f, r⟩ := itemsT_rep rx q
        exact ⟨a, us, rfl, f.sq, Post.ret hp1 S1 (walks_enumT f r)⟩
    · exact hp1.elim⟩
/-! ### reversed -/
theorem rev_at {α : Type} {xs : List α} {i : Nat} {x : α} (e : xs.reverse[i]? = some x) : i < xs.length ∧ xs[xs.length - 1 - i]? = some x := by
  have hi : i < xs.length := by
    have := (List.getElem?_eq_some_iff.mp e).1
    simpa using this
  rw [List.getElem?_reverse hi] at e
  exact ⟨hi, e⟩
theorem walks_revL {T : Tx} {m : Mm} {H : Hp} {a : Addr} {vs : List V} {ds : List D} (f : FzL T.K m H a vs) (r : RepA T.w T.K T.mg m H ds vs) : WalksD T m H (Itv T.K a vs.length) ds.reverse := by
  refine ⟨fun m' H' h' X S i d e => ?_, fun m' H' h' X S => ?_⟩
  · obtain ⟨hi, e⟩ := rev_at e
    obtain ⟨v, hv, rv⟩ := repA_at r e
    have hl := r.length
    rw [← hl] at hv
    refine ⟨⟨by omega, vs, v, (f.mov X).sq, hv⟩, fun x H2 ⟨rfl, hx⟩ => ?_⟩
    have c1 := hx vs (f.mov X).sq
    rw [hv] at c1
    cases c1
    exact ⟨S, Ext.refl, Rep.mov X _ _ rv⟩
  · show vs.length ≤ ds.reverse.length
    rw [List.length_reverse, r.length]
    exact Nat.le_refl _
theorem walks_revT {T : Tx} {m : Mm} {H : Hp} {a : Addr} {vs : List V} {ds : List D} (f : FzT T.K m H a vs) (r : RepA T.w T.K T.mg m H ds vs) : WalksD T m H (RT.ItvT T.K a vs.length) ds.reverse := by
  refine ⟨fun m' H' h' X S i d e => ?_, fun m' H' h' X S => ?_⟩
  · obtain ⟨hi, e⟩ := rev_at e
    obtain ⟨v, hv, rv⟩ := repA_at r e
    have hl := r.length
    rw [← hl] at hv
    refine ⟨⟨by omega, vs, v, (f.mov X).sq, hv⟩, fun x H2 ⟨rfl, hx⟩ => ?_⟩
    have c1 := hx vs (f.mov X).sq
    rw [hv] at c1
    cases c1
    exact ⟨S, Ext.refl, Rep.mov X _ _ rv⟩
  · show vs.length ≤ ds.reverse.length
    rw [List.length_reverse, r.length]
    exact Nat.le_refl _
def itRev (f : Ev → M D) : Ev → M (List D) := fun μ => bnd (f μ) fun d => match d with
  | .p (.list xs) => ret (xs.map .p).reverse
  | d => (match itemsT d with
    | some xs => ret xs.reverse
    | none => bad)
theorem is_rev {tg e : Expr} {fe : Ev → M D} {p pos : Pos} (hg : Gl X "reversed") (hm : X.mg "reversed" = none) (he : ES X W e fe) (hs : starEach [e] X.env = (false, eval e X.env) :: starEach [] X.env := by rfl) : IS X W tg (.Call (.Name "reversed" p) [e] [] pos) (itRev fe) :=
  pi_imp (RT.pi_revA hg hm he hs) fun σ H Q ⟨μ, m, h, S, V, hp⟩ => ⟨μ, m, h, S, V, Post.bnd hp fun d h1 m1 H1 v _ S1 X1 r1 hp1 => by
    split at hp1
    · simp only [Rep, RepP] at r1
      obtain ⟨a, vs, rfl, f, r⟩ := r1
      exact ⟨a, vs, rfl, .inl ⟨f.sq, Post.ret hp1 S1 (walks_revL f (repA_map r))⟩⟩
    · cases q : itemsT d with
      | none => rw [q] at hp1; exact hp1.elim
      | some xs =>
        rw [q] at hp1
        obtain ⟨a, vs, rfl, f, r⟩ := itemsT_rep r1 q
        exact ⟨a, vs, rfl, .inr ⟨f.sq, Post.ret hp1 S1 (walks_revT f r)⟩⟩⟩
end
end MP
/-! MP22: frozen dicts of deep keys, walked: keys, items. -/
namespace MP
open PySem PySem.Spec PyProof.Rows L2
open Sem (wp)
def ItkN (w : World) (d : Addr) (xs : List (NestedKey × Addr × Value)) (ep : Nat) : It :=
  ⟨fun i H => H d = some (.ext (DRaw w d xs ep)) ∧ i < xs.length, fun i H x H' => H' = H ∧ ∃ y, xs[i]? = some y ∧ x = .ref y.2.1, fun i H => H d = some (.ext (DRaw w d xs ep)) ∧ xs.length = i⟩
def ItiN (w : World) (d : Addr) (xs : List (NestedKey × Addr × Value)) (vs : List V) (ep : Nat) : It :=
  ⟨fun i H => H d = some (.ext (DRaw w d xs ep)) ∧ i < xs.length, fun i H x H' => ∃ T y u, xs[i]? = some y ∧ vs[i]? = some u ∧ x = .ref T ∧ H T = none ∧ H' = upd H T (.tup [.ref y.2.1, u]), fun i H => H d = some (.ext (DRaw w d xs ep)) ∧ xs.length = i⟩
section
variable {P : Program} {w : World} {K : PySem.W.Frag} {tg : Expr} {d : Addr} {xs : List (NestedKey × Addr × Value)} {vs : List V} {ep : Nat}
theorem draw_at {X : Cx} {pins : List (Addr × Obj)} {σ : L2.St} {H : Hp} {s : Shared} (I : Inv X pins σ H s) (e : H d = some (.ext (DRaw X.w d xs ep))) : ∃ es, s.heap.DictRaw d es ep ∧ es.toList = xs.map (entN X.w) ∧ es.size = xs.length := by
  obtain ⟨o, es, ho, hx, hd, he⟩ := (show ObjOk X.prog X.w H s.heap d (.ext _) from I.hok d _ e).1
  exact ⟨es, ⟨o, ho, hx, hd⟩, he, by rw [← Array.length_toList, he, List.length_map]⟩
theorem ent_at {es : Array DictEntry} (he : es.toList = xs.map (entN w)) {i : Nat} (hi : i < es.size) {y : NestedKey × Addr × Value} (hy : xs[i]? = some y) : es[i] = entN w y := by
  have : es.toList[i]? = some es[i] := by rw [Array.getElem?_toList]; exact Array.getElem?_eq_getElem hi
  rw [he, List.getElem?_map, hy] at this
  exact (Option.some.inj this).symm
theorem turn_keysN (it : Addr) : Turn P w K tg (ItkN w d xs ep) [it] it (fun i h => h.IsKeyIter it d i xs.length ep) where
  mem := by simp
  obj := fun i h st b hb => by
    obtain rfl : b = it := by simpa using hb
    obtain ⟨oi, e, c, dd⟩ := st
    exact ⟨oi, e, fun v z => by rw [dd] at z; cases z⟩
  keep := fun i h h' st k => st.at fun oi e => k it (by simp) oi e
  item := by
    intro X hP hw hK hc i pins s σ H E I hf st ⟨hd, hi⟩
    subst hP hw hK
    obtain ⟨f0, f1, f2, f3, f4, f5⟩ := hf it (by simp)
    obtain ⟨es, raw, he, hz⟩ := draw_at I hd
    have hi' : i < es.size := by rw [hz]; exact hi
    rw [← hz] at st
    refine wpAny_pyNext_keys_item_raw st raw hi' fun h' st' sb => ?_
    have I1 : Inv X pins σ H { s with heap := h' } := I.turned (t' := s.toks) (fun b ob hb e => (sb.2 b hb).trans e) f0 f1 f3 f4 f5
    obtain ⟨oi, e, c, dd⟩ := id st'
    have ey : xs[i]? = some xs[i] := List.getElem?_eq_getElem hi
    refine ⟨_, rfl, go_of (s := { s with heap := h' }) e c dd (by decide) ⟨.ref xs[i].2.1, H, I1, by rw [ent_at he hi' ey]; rfl, ⟨rfl, _, ey, rfl⟩, ?_, fun b hb => (hf b hb).1⟩⟩
    show h'.IsKeyIter it d (i + 1) xs.length ep
    rw [← hz]
    exact st'
  done := by
    intro X hP hw hK hc i pins s σ H E I hf st ⟨hd, hi⟩
    subst hP hw hK
    obtain ⟨f0, f1, f2, f3, f4, f5⟩ := hf it (by simp)
    obtain ⟨es, raw, he, hz⟩ := draw_at I hd
    rw [← hz] at st
    exact wpAny_pyNext_keys_end_raw (I.ok.hd hc) st raw (by omega) fun h' eb => ⟨rfl, I.turned (t' := s.toks) (fun b o hb e => eb b o hb e) f0 f1 f3 f4 f5⟩
  self := fun A i s Q E st h => by
    refine wpAny_pyIter_slot st.typeIs PySem.F.slot_dict_keyiterator_iter (wpAny_call_entry PySem.F.slot_dict_keyiterator_iter st.typeIs PySem.F.entry_dict_keyiterator_iter ?_ (PySem.F.args_dict_keyiterator_iter_1 _))
    show wpAny _ _ (PySem.ret (Value.ref it)) _ _ s
    exact wpAny_pure ⟨_, rfl, "dict_keyiterator", _, st.typeIs, PySem.F.slot_dict_keyiterator_next.lookup, h⟩
theorem turn_itemsN {elts : List Expr} {kk : Nat} {tpos : Pos} (hv : Vals vs (xs.map (·.2.2))) (it : Addr) : Turn P w K (.Tuple elts kk tpos) (ItiN w d xs vs ep) [it] it (fun i h => ∃ ok ov, IsItemIter h it d i xs.length ep ok ov) where
  mem := by simp
  obj := fun i h st b hb => by
    obtain rfl : b = it := by simpa using hb
    obtain ⟨ok, ov, e⟩ := st
    exact ⟨_, e, fun v z => nomatch z⟩
  keep := fun i h h' st k => let ⟨ok, ov, e⟩ := st; ⟨ok, ov, k it (by simp) _ e⟩
  item := by
    intro X hP hw hK hc i pins s σ H E I hf st ⟨hd, hi⟩
    subst hP hw hK
    obtain ⟨es, raw, he, hz⟩ := draw_at I hd
    have hi' : i < es.size := by rw [hz]; exact hi
    obtain ⟨ok, ov, hit⟩ := st
    have hlt : it < s.heap.objs.size := Heap.lt_size hit
    rw [← hz] at hit
    have ey : xs[i]? = some xs[i] := List.getElem?_eq_getElem hi
    have lv : vs.length = xs.length := by have := hv.length; simpa using this
    have eu : vs[i]? = some vs[i] := List.getElem?_eq_getElem (by omega)
    obtain ⟨u, hu, ru⟩ := hv.get eu
    rw [List.getElem?_map, ey] at hu
    cases hu
    refine wpAny_pyNext_items_item_raw hit raw hi' fun h' ho hT _ hk => ?_
    rw [ent_at he hi' ey] at ho hT
    refine ⟨_, rfl, wpAny_letOwnedTupleGo_items (s := { s with heap := h' }) ho fun h'' he' sb => ?_⟩
    have hT2 : h''.get? s.heap.objs.size = some { cls := .type "tuple", data := .seq #[.ref xs[i].2.1, xs[i].2.2] } := (sb.2 _ (Nat.ne_of_gt hlt)).trans hT
    have nw : ObjOk X.prog X.w (upd H s.heap.objs.size (.tup [.ref xs[i].2.1, vs[i]])) h'' s.heap.objs.size (.tup [.ref xs[i].2.1, vs[i]]) :=
      ⟨by show 2 ≤ sizeLine; decide, [.ref xs[i].2.1, xs[i].2.2], .cons rfl (.cons ru .nil), ⟨_, hT2, rfl, _, rfl⟩⟩
    have I1 : Inv X pins σ (upd H s.heap.objs.size (.tup [.ref xs[i].2.1, vs[i]])) { s with heap := h'' } :=
      I.turnedNew (t' := s.toks) (ch := [it]) (fun b ob hb e => (sb.2 b (by simpa using hb)).trans (hk b ob (by simpa using hb) e)) hf (Nat.le_refl _) nw
    refine ⟨.ref s.heap.objs.size, _, I1, rfl, ⟨_, _, _, ey, eu, rfl, I.hok.fresh (Nat.le_refl _), rfl⟩, ⟨_, _, by rw [hz] at he'; exact he'⟩, fun b hb => ?_⟩
    · obtain rfl : b = it := by simpa using hb
      rw [upd_ne (Nat.ne_of_lt hlt)]
      exact (hf b hb).1
  done := by
    intro X hP hw hK hc i pins s σ H E I hf st ⟨hd, hi⟩
    subst hP hw hK
    obtain ⟨f0, f1, f2, f3, f4, f5⟩ := hf it (by simp)
    obtain ⟨es, raw, he, hz⟩ := draw_at I hd
    obtain ⟨ok, ov, hit⟩ := st
    rw [← hz] at hit
    exact wpAny_pyNext_items_end_raw (I.ok.hd hc) hit raw (by omega) fun h' eb => ⟨rfl, I.turned (t' := s.toks) (fun b o hb e => eb b o hb e) f0 f1 f3 f4 f5⟩
  self := fun A i s Q E st h => let ⟨_, _, e⟩ := st; PySem.W.kcp_self e h
end
theorem walks_keysN {T : Tx} {m : Mm} {H : Hp} {d : Addr} {xs : List (NestedKey × Addr × Value)} {ep : Nat} {kvs : List (PyData × PyData)} (hd : H d = some (.ext (DRaw T.w d xs ep))) (nd : d ∉ m) (e1 : keysD xs = kvs.map (·.1)) (rk : RepPs T.w T.K m H (kvs.map (·.1)) (keysV xs)) :
    WalksD T m H (ItkN T.w d xs ep) (kvs.map fun p => .p p.1) := by
  have lx : xs.length = kvs.length := by
    have := congrArg List.length e1
    simpa [keysD] using this
  refine ⟨fun m' H' h' X S i x e => ?_, fun m' H' h' X S => ⟨(X.rd d _ hd nd).1, by rw [List.length_map]; exact lx⟩⟩
  rw [List.getElem?_map] at e
  obtain ⟨p, ep', rfl⟩ := Option.map_eq_some_iff.mp e
  have hi : i < xs.length := by rw [lx]; exact (List.getElem?_eq_some_iff.mp ep').1
  refine ⟨⟨(X.rd d _ hd nd).1, hi⟩, fun x H2 hy => ?_⟩
  obtain ⟨rfl, y, ey, rfl⟩ := hy
  refine ⟨S, Ext.refl, ?_⟩
  obtain ⟨k1, h1, r1⟩ := repPs_get rk i p.1 (by rw [List.getElem?_map, ep']; rfl)
  simp only [keysV, List.getElem?_map, ey, Option.map_some, Option.some.injEq] at h1
  simp only [Rep]
  rw [h1]
  exact RepP.mov X _ _ r1
theorem walks_itemsN {T : Tx} {m : Mm} {H : Hp} {d : Addr} {xs : List (NestedKey × Addr × Value)} {vs : List V} {ep : Nat} {kvs : List (PyData × PyData)} (hd : H d = some (.ext (DRaw T.w d xs ep))) (nd : d ∉ m) (e1 : keysD xs = kvs.map (·.1)) (rk : RepPs T.w T.K m H (kvs.map (·.1)) (keysV xs)) (rr : RepPs T.w T.K m H (kvs.map (·.2)) vs) :
    WalksD T m H (ItiN T.w d xs vs ep) (kvs.map fun p => .p (pairP p)) := by
  have lx : xs.length = kvs.length := by
    have := congrArg List.length e1
    simpa [keysD] using this
  refine ⟨fun m' H' h' X S i x e => ?_, fun m' H' h' X S => ⟨(X.rd d _ hd nd).1, by rw [List.length_map]; exact lx⟩⟩
  rw [List.getElem?_map] at e
  obtain ⟨p, ep', rfl⟩ := Option.map_eq_some_iff.mp e
  have hi : i < xs.length := by rw [lx]; exact (List.getElem?_eq_some_iff.mp ep').1
  refine ⟨⟨(X.rd d _ hd nd).1, hi⟩, fun x H2 hy => ?_⟩
  obtain ⟨Tt, y, u, ey, eu, rfl, nT, rfl⟩ := hy
  obtain ⟨k1, h1, r1⟩ := repPs_get rk i p.1 (by rw [List.getElem?_map, ep']; rfl)
  obtain ⟨k2, h2, r2⟩ := repPs_get rr i p.2 (by rw [List.getElem?_map, ep']; rfl)
  simp only [keysV, List.getElem?_map, ey, Option.map_some, Option.some.injEq] at h1
  rw [eu] at h2
  cases h2
  rw [h1]
  exact pair_new (d := .p p.1) (e := .p p.2) S nT (by simp only [Rep]; exact RepP.mov X _ _ r1) (by simp only [Rep]; exact RepP.mov X _ _ r2)
def itKN (f : Ev → M D) : Ev → M (List D) := fun μ => bnd (f μ) fun d => match d with
  | .p (.dict kvs) => chk (kvs.all (fun p => (tk p.1).isSome) = true) (ret (kvs.map fun p => .p p.1))
  | _ => bad
def itIN (f : Ev → M D) : Ev → M (List D) := fun μ => bnd (f μ) fun d => match d with
  | .p (.dict kvs) => chk (kvs.all (fun p => (tk p.1).isSome) = true) (ret (kvs.map fun p => .p (pairP p)))
  | _ => bad
section
variable {X : Cx} {W : XK} {tg e : Expr} {fe : Ev → M D} {apos cpos : Pos}
/-- a frozen dict of deep keys -/
theorem froz_rep {m : Mm} {H : Hp} {kvs : List (PyData × PyData)} {v : V} (hall : kvs.all (fun p => (tk p.1).isSome) = true) (r : Rep X.w X.K X.mg m H (.p (.dict kvs)) v) :
    ∃ a xs vs, v = .ref a ∧ a ∉ m ∧ DN X.w H a xs ∧ keysD xs = kvs.map (·.1) ∧ RepPs X.w X.K m H (kvs.map (·.1)) (keysV xs) ∧ Vals vs (xs.map (·.2.2)) ∧ RepPs X.w X.K m H (kvs.map (·.2)) vs := by
  simp only [Rep, RepP] at r
  obtain ⟨a, ks, vs, rfl, ⟨nm, f⟩, hk, hv⟩ := r
  rcases f with ⟨kk, k0, hd, e1, e2⟩ | ⟨xs, dn, e1, rfl, e3⟩
  · exfalso
    cases kk with
    | nil => exact k0 rfl
    | cons z zs =>
      cases kvs with
      | nil => simp at e1
      | cons p r =>
        simp only [List.map_cons, List.cons.injEq] at e1
        simp only [List.all_cons, Bool.and_eq_true] at hall
        rw [← e1.1] at hall
        cases hz : z.1 with
        | inl i => rw [hz] at hall; exact absurd hall.1 (by simp [keyP, tk])
        | inr i => rw [hz] at hall; exact absurd hall.1 (by simp [keyP, tk])
  · exact ⟨a, xs, vs, rfl, nm, dn, e1, repKs_iff.mp hk, e3, repVs_iff.mp hv⟩
theorem is_keysN (he : ES X W e fe) : IS X W tg e (itKN fe) := by
  refine ⟨fun pins s σ H R I ⟨μ, m, h, S, V, hp⟩ => ?_⟩
  refine thn (he.run pins s σ H (fun v H1 => ∃ a xs ep, v = .ref a ∧ (a == sysModules) = false ∧ H1 a = some (.ext (DRaw X.w a xs ep)) ∧ R (ItkN X.w a xs ep) H1) I ⟨μ, m, h, S, V, Post.bnd hp fun d h1 m1 H1 v _ S1 X1 r1 hp1 => ?_⟩) fun u s1 ⟨v, H1, I1, rv, a, xs, ep, ev, hs, hd, q⟩ => ?_
  · split at hp1
    · obtain ⟨hall, hp1⟩ := chk_post hp1
      obtain ⟨a, xs, vs, rfl, nm, dn, e1, rk, _, _⟩ := froz_rep hall r1
      obtain ⟨ep, hd⟩ := dn.at_
      exact ⟨a, xs, ep, rfl, dn.sys, hd, Post.ret hp1 S1 (walks_keysN (T := tx X W) hd nm e1 rk)⟩
    · exact hp1.elim
  · subst ev
    obtain rfl : u = Value.ref a := rv
    obtain ⟨es, raw, he', hz⟩ := draw_at I1 hd
    refine wpAny_pyIter_dict_raw hs raw (pi_one (tk := s1.toks) I1 _ (turn_keysN _) ⟨_, Heap.get?_push_size _ rfl, rfl, ?_⟩ q)
    rw [hz] <;> rfl
theorem is_itemsN {elts : List Expr} {kk : Nat} {tpos : Pos} (he : ES X W e fe) (hbase : attributeBase e "items" X.env (eval e X.env) = eval e X.env := by rfl) (hline : (apos.endLine == cpos.line) = true := by rfl) :
    IS X W (.Tuple elts kk tpos) (.Call (.Attribute e "items" apos) [] [] cpos) (itIN fe) := by
  refine ⟨fun pins s σ H R I ⟨μ, m, h, S, V, hp⟩ => ?_⟩
  refine wpAny_Call_method (T := "dict") (id := "dict.items") hbase rfl hline PySem.F.plainAttrs_dict PySem.F.slot_dict_items PySem.F.type_dict_items
    (thn (he.run pins s σ H (fun v H1 => ∃ a xs vs ep, v = .ref a ∧ (a == sysModules) = false ∧ Vals vs (xs.map (·.2.2)) ∧ H1 a = some (.ext (DRaw X.w a xs ep)) ∧ R (ItiN X.w a xs vs ep) H1) I ⟨μ, m, h, S, V, Post.bnd hp fun d h1 m1 H1 v _ S1 X1 r1 hp1 => ?_⟩) fun u s1 ⟨v, H1, I1, rv, a, xs, vs, ep, ev, hs, hv, hd, q⟩ => ?_)
  · split at hp1
    · obtain ⟨hall, hp1⟩ := chk_post hp1
      obtain ⟨a, xs, vs, rfl, nm, dn, e1, rk, e3, rr⟩ := froz_rep hall r1
      obtain ⟨ep, hd⟩ := dn.at_
      exact ⟨a, xs, vs, ep, rfl, dn.sys, e3, hd, Post.ret hp1 S1 (walks_itemsN (T := tx X W) hd nm e1 rk rr)⟩
    · exact hp1.elim
  · subst ev
    obtain rfl : u = Value.ref a := rv
    obtain ⟨es, raw, he', hz⟩ := draw_at I1 hd
    obtain ⟨o, ho, hx, hdt⟩ := id raw
    refine ⟨⟨o, ho, hx.1⟩, fun b e => by cases e; exact ⟨o, ho, hx.2.1⟩, ?_⟩
    have I2 : Inv X pins σ H1 { s1 with heap := s1.heap.push { cls := .type "dict_items", data := .fields #[.ref a] } } := I1.kept (t' := s1.toks) fun b ob q => Heap.get?_push_of_some _ q
    refine method_meetsIn PySem.F.slot_dict_items PySem.F.entry_dict_items rfl (PySem.evalArgs_none ⟨rfl, ⟨o, ho, hx.1⟩, PySem.F.args_dict_items_1 _, _, meets_dict_items_raw a hs, ⟨es, ep, raw⟩, ?_⟩)
    refine wpAny_pyIter_items_raw (d := a) ⟨_, Heap.get?_push_size _ rfl, rfl, rfl⟩ (raw.at fun _ q => Heap.get?_push_of_some _ q) (pi_one (tk := s1.toks) I2 _ (turn_itemsN hv _) ⟨.none, .none, ?_⟩ q)
    rw [← hz]
    exact Heap.get?_push_size _ rfl
end
end MP
/-! MP23: dict comprehensions whose keys are tuples. -/
namespace MP
open PySem PySem.Spec PyProof.Rows L2
open Sem (wp)
/-- one pair is stored -/
def stepN (X : Cx) (D : Addr) (y z : V) (H : Hp) (Nx : Hp → Prop) : Prop := ∃ m xs k b, DN X.w H D xs ∧ RepPs X.w X.K m H (keysD xs) (keysV xs) ∧ y = .ref b ∧ RepP X.w X.K m H k.data (.ref b) ∧ k.depth ≤ 8 ∧
  ∀ ep r, RelV z r → Nx (upd H D (.ext (DRaw X.w D (storedH xs k b r) ep)))
theorem dn_dictSet {X : Cx} {pins : List (Addr × Obj)} {σ : L2.St} {H : Hp} {s : Shared} {E : Value → Shared → Prop} {D : Addr} {y z : V} {u r : Value} {Nx : Hp → Prop} {Q : Unit → Shared → Prop} (hu : X.A.units + 8 < cLine) (I : Inv X pins σ H s) (st : stepN X D y z H Nx) (ry : RelV y u) (rz : RelV z r)
    (h : ∀ s' H', Inv X pins σ H' s' → Nx H' → Q () s') : wpAny (model X.prog X.w) X.A (dictSet D u r) Q E s := by
  obtain ⟨m, xs, k, b, d, hk, rfl, kb, kd, nx⟩ := st
  cases ry
  refine wpAny_dictSet_heap (hsz := d.sz) (knd := nestedKind X.prog X.w) hu ⟨key_is I k _ _ kb rfl, kd⟩ (dn_at I d hk) fun h' dd' hs => ?_
  obtain ⟨ep, z⟩ := dn_write (t' := s.toks + (nestedKind X.prog X.w).draws k) I d hs dd'
  exact h _ _ z (nx ep r rz)
def tDcN (X : Cx) (wi : TI) (g : TG) (tt : TT) (tk tv : TE) (vs : List Nat) : TE := fun σ H Q => wi σ H fun J H1 => ∀ D, H1 D = none → (D == sysModules) = false → ∃ U : Nat → Nat → Hp → Prop, (∃ m, U 0 m (upd H1 D (.ext (DRaw X.w D [] 0)))) ∧ ∀ i m H, U i m H →
  (J.stop i H ∧ Q (.ref D) H) ∨ (J.go i H ∧ ∃ Nx : Hp → Prop, (∀ H', Nx H' → ∃ m', m' < m ∧ U (i + 1) m' H') ∧ ∀ x H', J.yld i H x H' → g x (wipe σ vs) H' fun σ2 H2 => wipe σ2 vs = wipe σ vs ∧ tt σ2 H2 fun b H3 =>
    if b = true then tk σ2 H3 fun y H4 => tv σ2 H4 fun z H5 => stepN X D y z H5 Nx else Nx H3)
section
variable {X : Cx} {kx vx tg iter : Expr} {ifs : List Expr} {scope : Scope} {own : List (Str × Nat)} {pos : Pos} {wi : TI} {g : TG} {tt : TT} {tk tv : TE}
theorem dcN_core {pins : List (Addr × Obj)} {s : Shared} {σ : L2.St} {H : Hp} {Q : VK} {pos' : Pos} {use : Option (Value → Sem Unit)} {Qf : Value → Shared → Prop} (hu : X.A.units + 8 < cLine) (hc : X.calm = true) (hN : X.N.Nodup) (I : Inv X pins σ H s) (hi : PI X tg iter wi) (ok : BlkOk X.N X.env.scope scope own)
    (hg : ∀ (s : Shared) (H : Hp) (C : Addr) (cl : List (Str × Addr)) (fp : List Addr), PG (X.blk s H scope (compEnvC scope cl C X.env) fp) tg g) (ht : ∀ (s : Shared) (H : Hp) (C : Addr) (cl : List (Str × Addr)) (fp : List Addr), PTs (X.blk s H scope (compEnvC scope cl C X.env) fp) ifs tt)
    (hk : ∀ (s : Shared) (H : Hp) (C : Addr) (cl : List (Str × Addr)) (fp : List Addr), PE (X.blk s H scope (compEnvC scope cl C X.env) fp) kx tk) (he : ∀ (s : Shared) (H : Hp) (C : Addr) (cl : List (Str × Addr)) (fp : List Addr), PE (X.blk s H scope (compEnvC scope cl C X.env) fp) vx tv)
    (hs : ∀ x, foldedSetIterable iter X.env x = pure x) (want : tDcN X wi g tt tk tv (own.map (·.2)) σ H Q)
    (done : ∀ D C s' ns G', Inv X pins σ G' s' → Q (.ref D) G' → s'.heap.Ns C ns → FpOk X pins G' C → compPost (model X.prog X.w) X.A X.xe use Qf (.ref D) C (.ok .next) s') :
    wpAny (model X.prog X.w) X.A (comprehension (.DictComp kx vx [⟨tg, iter, ifs, 0⟩] scope pos) scope X.env pos' newDict false (eval iter X.env) use) Qf X.xe s := by
  have fr : ∀ y ∈ scope.names, y.2 = .free → ∃ c, X.env.cells.lookup y.1 = some c := fun y hy e => (ok.free y hy e).elim (fun z => I.ok.has _ (.inl z)) fun z => I.ok.has _ (.inr z)
  refine wpAny_comprehension_free (use := use) rfl hs (closure_ok fr) ok.kind (fun y hy e => by rw [ok.uniq y hy, e]) (thn (hi.run pins s σ H _ I want) fun xv s1 hx => thn hx fun itv s2 got => ?_)
  obtain ⟨it, fp, tn, J, G, rfl, I2, T, st2, f2, q⟩ := got
  refine wpAny_newObj_type (newEnv_comp ?_)
  generalize eD : s2.heap.objs.size = D
  have free : G D = none := I2.hok.fresh (Nat.le_of_eq eD)
  have nsys : (D == sysModules) = false := by
    rw [← eD]
    exact beq_eq_false_iff_ne.mpr (Ne.symm (Nat.ne_of_lt I2.big))
  obtain ⟨U, ⟨m0, u0⟩, turn⟩ := q D free nsys
  generalize es3 : ({ s2 with heap := s2.heap.push { cls := .type "dict", data := .dict #[] } } : Shared) = s3
  have I3 : Inv X pins σ (upd G D (.ext (DRaw X.w D [] 0))) s3 := by
    rw [← es3]
    refine I2.laid (t' := s2.toks) (fun b o e => Heap.get?_push_of_some _ e) (Nat.le_of_eq eD) ?_
    rw [← eD]
    exact draw_ext (draw_empty s2.heap)
  have hp3 : s3.heap = s2.heap.push { cls := .type "dict", data := .dict #[] } := by rw [← es3]
  have f3 : ∀ b ∈ fp, FpOk X pins (upd G D (.ext (DRaw X.w D [] 0))) b ∧ b < s3.heap.objs.size := fun b hb => by
    obtain ⟨o, eo, _⟩ := T.obj _ _ st2 b hb
    have lt := Heap.lt_size eo
    refine ⟨⟨?_, (f2 b hb).2⟩, by rw [hp3, Heap.size_push]; exact Nat.lt_succ_of_lt lt⟩
    rw [upd_ne (by rw [← eD]; exact Nat.ne_of_lt lt)]
    exact (f2 b hb).1
  have st3 : tn 0 s3.heap := T.keep _ _ _ st2 fun b _ o e => by rw [hp3]; exact Heap.get?_push_of_some _ e
  have I4 := block_start I3 ok hN f3
  have pg := hg s3 (upd G D (.ext (DRaw X.w D [] 0))) s3.heap.objs.size (cellsFrom (s3.heap.objs.size + 1) scope.names (cloFrom X.env.cells scope.names [])) fp
  have pt := ht s3 (upd G D (.ext (DRaw X.w D [] 0))) s3.heap.objs.size (cellsFrom (s3.heap.objs.size + 1) scope.names (cloFrom X.env.cells scope.names [])) fp
  have pk := hk s3 (upd G D (.ext (DRaw X.w D [] 0))) s3.heap.objs.size (cellsFrom (s3.heap.objs.size + 1) scope.names (cloFrom X.env.cells scope.names [])) fp
  have pv := he s3 (upd G D (.ext (DRaw X.w D [] 0))) s3.heap.objs.size (cellsFrom (s3.heap.objs.size + 1) scope.names (cloFrom X.env.cells scope.names [])) fp
  show codeAny _ _ (.compStart _ 0 (.ref it) (.ref D) (compEnvC scope (cellsFrom (s3.heap.objs.size + 1) scope.names (cloFrom X.env.cells scope.names [])) s3.heap.objs.size X.env)) (compPost (model X.prog X.w) X.A X.xe use _ (.ref D) s3.heap.objs.size) { s3 with heap := pushCells (s3.heap.push { cls := .type "dict", data := .dict #[] }) scope.names }
  have none3 : ∀ b ∈ fp, (upd G D (.ext (DRaw X.w D [] 0))) b = none := fun b hb => (f3 b hb).1.1
  generalize ece : compEnvC scope (cellsFrom (s3.heap.objs.size + 1) scope.names (cloFrom X.env.cells scope.names [])) s3.heap.objs.size X.env = ce at I4 pg pt pk pv ⊢
  have loc : ce.locals = s3.heap.objs.size := by subst ece; rfl
  generalize eG3 : upd G D (.ext (DRaw X.w D [] 0)) = G3 at I3 I4 pg pt pk pv u0 none3 f3
  generalize es4 : ({ s3 with heap := pushCells (s3.heap.push { cls := .type "dict", data := .dict #[] }) scope.names } : Shared) = s4 at I4 ⊢
  have st4 : tn 0 s4.heap := T.keep _ _ _ st3 fun b _ o e => by rw [← es4]; exact pushCells_keeps _ _ _ _ (Heap.get?_push_of_some _ e)
  have stat : ∀ {τ : L2.St} {G' : Hp} {t : Shared}, Inv (X.blk s3 G3 scope ce fp) [] τ G' t → (∀ b ∈ fp, G' b = none) → ∀ b ∈ fp, FpOk (X.blk s3 G3 scope ce fp) [] G' b := fun {τ G' t} J' n b hb =>
    ⟨n b hb, (J'.ok.exf b hb).1, J'.ok.exfs b hb, .inl hb, fun x c e => (J'.ok.exf b hb).2 x c e, fun p hp => absurd (show p ∈ ([] : List (Addr × Obj)) ++ [] from hp) (by simp)⟩
  refine codeAny_compStart_dict ?loop (T.self X.A 0 _ _ _ st4 ?loop)
  refine compLoop_anyD (fun n t => ∃ i G', Inv (X.blk s3 G3 scope ce fp) [] (wipe σ (own.map (·.2))) G' t ∧ tn i t.heap ∧ (∀ b ∈ fp, G' b = none) ∧ U i n G') ?_ m0 ⟨0, G3, I4, st4, none3, u0⟩
  rintro n s5 ⟨i, G5, I5, st5, n5, u5⟩
  rcases turn i n G5 u5 with ⟨stop, qq⟩ | ⟨go, Nx, next, step⟩
  · refine thnF (T.done (X.blk s3 G3 scope ce fp) rfl rfl rfl hc i [] s5 _ G5 (fun _ _ => False) I5 (stat I5 n5) st5 stop) fun r s6 ⟨hr, I6⟩ => ?_
    subst hr
    have I7 : Inv X pins σ G5 s6 := I3.call' (ch := fp) I6.os I6.base I6.hok I6.bare fun b hb => ⟨(f3 b hb).1.2.2.2.1, (f3 b hb).1.2.1, (f3 b hb).1.2.2.2.2.1, (f3 b hb).1.2.2.2.2.2⟩
    have gone : G5 s3.heap.objs.size = none := by
      have z : G5 ce.locals = none := I6.free
      rwa [loc] at z
    obtain ⟨ns, hn, _⟩ := I6.loc
    have hn : s6.heap.Ns ce.locals ns := hn
    rw [loc] at hn
    exact done D s3.heap.objs.size s6 ns G5 I7 qq hn (I3.fpOk (Nat.le_refl _) gone)
  · refine thnF (T.item (X.blk s3 G3 scope ce fp) rfl rfl rfl hc i [] s5 _ G5 (fun _ _ => False) I5 (stat I5 n5) st5 go) fun r s6 ⟨u, hr, h6⟩ => ?_
    subst hr
    refine thnF h6 fun _ s7 ⟨x, G7, I7, r7, y7, st7, n7⟩ => ?_
    refine thnF (pg.run _ s7 _ G7 x u _ (I7.pinned (stat I7 n7) (T.obj _ _ st7)) r7 (step x G7 y7)) fun _ s8 ⟨σ8, G8, I8, hw8, q8⟩ => ?_
    refine thnF (pt.run _ s8 σ8 G8 _ I8 q8) fun b s9 ⟨G9, I9, q9⟩ => ?_
    have fin : ∀ {t : Shared} {G' : Hp}, Inv (X.blk s3 G3 scope ce fp) ([] ++ pinsAt fp s7.heap) σ8 G' t → Nx G' → ∃ m, m < n ∧ ∃ i G', Inv (X.blk s3 G3 scope ce fp) [] (wipe σ (own.map (·.2))) G' t ∧ tn i t.heap ∧ (∀ b ∈ fp, G' b = none) ∧ U i m G' := fun {t G'} J' nx => by
      obtain ⟨m', lt, u'⟩ := next G' nx
      have pin : ∀ b ∈ fp, ∀ o, s7.heap.get? b = some o → t.heap.get? b = some o ∧ G' b = none := fun b hb o e => let z := J'.pin (b, o) (List.mem_append_right _ (List.mem_append_right _ (mem_pinsAt hb e))); ⟨z.1, z.2.1⟩
      refine ⟨m', lt, i + 1, G', (J'.unpinned (pins := [])).weak (by rw [← hw8, wipe_length]) (fun j v e => ?_), T.keep _ _ _ st7 fun b hb o e => (pin b hb o e).1, fun b hb => ?_, u'⟩
      · rw [← hw8] at e
        exact (wipe_some e).1
      · obtain ⟨o, e, _⟩ := T.obj _ _ st7 b hb
        exact (pin b hb o e).2
    cases b with
    | false =>
      simp only [Bool.false_eq_true, if_false] at q9 ⊢
      exact fin I9 q9
    | true =>
      simp only [if_true] at q9 ⊢
      exact thnF (pk.run _ s9 σ8 G9 _ I9 q9) fun ku s10 ⟨yk, G10, I10, r10, q10⟩ => thnF (pv.run _ s10 σ8 G10 _ I10 q10) fun vu s11 ⟨yv, G11, I11, r11, q11⟩ =>
        dn_dictSet (X := X.blk s3 G3 scope ce fp) hu I11 q11 r10 r11 fun t G' J' nx => fin J' nx
theorem pe_dcN (hu : X.A.units + 8 < cLine) (hc : X.calm = true) (hN : X.N.Nodup) (hi : PI X tg iter wi) (ok : BlkOk X.N X.env.scope scope own)
    (hg : ∀ (s : Shared) (H : Hp) (C : Addr) (cl : List (Str × Addr)) (fp : List Addr), PG (X.blk s H scope (compEnvC scope cl C X.env) fp) tg g) (ht : ∀ (s : Shared) (H : Hp) (C : Addr) (cl : List (Str × Addr)) (fp : List Addr), PTs (X.blk s H scope (compEnvC scope cl C X.env) fp) ifs tt)
    (hk : ∀ (s : Shared) (H : Hp) (C : Addr) (cl : List (Str × Addr)) (fp : List Addr), PE (X.blk s H scope (compEnvC scope cl C X.env) fp) kx tk) (he : ∀ (s : Shared) (H : Hp) (C : Addr) (cl : List (Str × Addr)) (fp : List Addr), PE (X.blk s H scope (compEnvC scope cl C X.env) fp) vx tv)
    (hs : ∀ x, foldedSetIterable iter X.env x = pure x := by intro _; rfl) : PE X (.DictComp kx vx [⟨tg, iter, ifs, 0⟩] scope pos) (tDcN X wi g tt tk tv (own.map (·.2))) := by
  refine ⟨fun pins s σ H Q I want => ?_⟩
  rw [arm_eval_DictComp]
  refine dcN_core hu hc hN I hi ok hg ht hk he hs want fun D C s' ns G' I' q hn f => ⟨ns, hn, fun h'' sb => ?_⟩
  obtain ⟨g0, g1, g2, g3, g4, g5⟩ := f
  exact ⟨.ref D, G', I'.turned (t' := s'.toks) (fun b o hb e => (sb.2 b hb).trans e) g0 g1 g3 g4 g5, rfl, q⟩
/-- name = {..} -/
theorem ps_setDcN {i : Nat} {y : Str} {py spos : Pos} (hu : X.A.units + 8 < cLine) (hc : X.calm = true) (hN : X.N.Nodup) (hy : X.N[i]? = some y) (hyl : X.env.scope.names.lookup y = some .local)
    (hsw : swapsWith (.DictComp kx vx [⟨tg, iter, ifs, 0⟩] scope pos) (some (.Name y py)) spos.line X.env = pure true) (hi : PI X tg iter wi) (ok : BlkOk X.N X.env.scope scope own)
    (hg : ∀ (s : Shared) (H : Hp) (C : Addr) (cl : List (Str × Addr)) (fp : List Addr), PG (X.blk s H scope (compEnvC scope cl C X.env) fp) tg g) (ht : ∀ (s : Shared) (H : Hp) (C : Addr) (cl : List (Str × Addr)) (fp : List Addr), PTs (X.blk s H scope (compEnvC scope cl C X.env) fp) ifs tt)
    (hk : ∀ (s : Shared) (H : Hp) (C : Addr) (cl : List (Str × Addr)) (fp : List Addr), PE (X.blk s H scope (compEnvC scope cl C X.env) fp) kx tk) (he : ∀ (s : Shared) (H : Hp) (C : Addr) (cl : List (Str × Addr)) (fp : List Addr), PE (X.blk s H scope (compEnvC scope cl C X.env) fp) vx tv)
    (hs : ∀ x, foldedSetIterable iter X.env x = pure x := by intro _; rfl) : PS X (.Assign [.Name y py] (.DictComp kx vx [⟨tg, iter, ifs, 0⟩] scope pos) spos) (tAsg (tDcN X wi g tt tk tv (own.map (·.2))) (gName i)) := by
  refine ⟨fun pins s σ H E I want => ?_⟩
  rw [exec_Assign_Name_used _ _ _ _ hsw]
  refine wpAny_bind (wpAny_standAt (wpAny_bind ?_))
  show wpAny _ X.A (do let _ ← comprehension (.DictComp kx vx [⟨tg, iter, ifs, 0⟩] scope pos) scope X.env (firstIterPos [⟨tg, iter, ifs, 0⟩] pos) newDict false (eval iter X.env) (some (assign (.Name y py) X.env))) _ _ s
  have want : tDcN X wi g tt tk tv (own.map (·.2)) σ H (fun x G => gName i x σ G E.nx) := want
  refine wpAny_bind (thn (dcN_core (Qf := fun _ t => SP X pins E .next t) hu hc hN I hi ok hg ht hk he hs want fun D C t ns G' I' q hn f => ?_) fun _ t hq => wpAny_pure (wpAny_pure hq))
  show wpAny _ _ (assign (.Name y py) X.env (.ref D)) _ _ _
  refine wpAny_assign_Name (store_ok2 (v := V.ref D) I' hN hy (.inl hyl) rfl (fun s2 I2 ⟨a, sb, ha⟩ => ?_) (.inr hyl))
  obtain ⟨g0, g1, g2, g3, g4, g5⟩ := f
  have other : C ≠ a := ha.elim (fun z => by rw [z]; exact g1) fun z e => g4 y a z e.symm
  exact ⟨ns, hn.sameBut sb other, fun h3 sb3 => ⟨_, G', I2.turned (t' := s2.toks) (fun b o hb e => (sb3.2 b hb).trans e) g0 g1 g3 g4 g5, q⟩⟩
end
theorem swD_true {kx vx : Expr} {gs : List Comprehension} {scope : Scope} {pos py : Pos} {y : Str} {l : Nat} {env : Env} (hk : env.scope.kind = .function) (hy : env.scope.names.lookup y = some .local) (hl : (py.line == pos.line) = true)
    (ha : (scope.names.any fun (n, k) => n == y && (k == .local || k == .cell)) = false) : swapsWith (.DictComp kx vx gs scope pos) (some (.Name y py)) l env = pure true := by
  have ky : env.kindOf y = some .local := hy
  have hb : env.blockKind = .function := by unfold Env.blockKind; rw [hk]; rfl
  unfold swapsWith
  simp only [hb, ky, ha, Expr.pos, hl]
  rfl
end MP
/-! MP24: dict comprehensions as mini runs. -/
namespace MP
open PySem PySem.Spec PyProof.Rows L2
open Sem (wp)
def cmpDL (g : D → Ev → Hm → Option Ev) (tt : Ev → M Bool) (te tv : Ev → M D) (μ : Ev) : List D → List (PyData × D) → M (List (PyData × D))
  | [], acc => ret acc
  | d :: ds, acc => fun h => match g d μ h with
    | none => .bad
    | some μ1 => bnd (tt μ1) (fun b => if b = true then bnd (te μ1) fun kd => bnd (tv μ1) fun v => (match kd with
        | .p q => (match tk q with
          | some k => chk (acc.length < sizeLine) (cmpDL g tt te tv μ ds (dputL nkD acc k q v))
          | none => bad)
        | _ => bad) else cmpDL g tt te tv μ ds acc) h
def cmpDE (fin : List (PyData × D) → M D) (fi : Ev → M (List D)) (vs : List Nat) (g : D → Ev → Hm → Option Ev) (tt : Ev → M Bool) (te tv : Ev → M D) : Ev → M D := fun μ => bnd (fi μ) fun ds => bnd (nox (cmpDL g tt te tv (wipeE μ vs) ds [])) fin
def mkDct (kvs : List (PyData × D)) : M D := match plain (kvs.map (·.2)) with
  | some vs => ret (.p (.dict ((kvs.map (·.1)).zip vs)))
  | none => bad
def newDN (kvs : List (PyData × D)) : M D := fun h => .ok (.cell h.length) (h ++ [.dct true kvs])
/-- a dict that is being made at p -/
structure Mkd (T : Tx) (m1 : Mm) (H1 : Hp) (p : Addr) (m : Mm) (H : Hp) (h : Hm) (acc : List (PyData × D)) (xs : List (NestedKey × Addr × Value)) (vs : List V) : Prop where
  S : Sim T.w T.K T.mg m H h
  v : m.v = p :: m1.v
  M : Mov m1 H1 m H
  X : Ext m1 H1 ⟨m.c, m1.v⟩ H
  dn : DN T.w H p xs
  ek : keysD xs = acc.map (·.1)
  rk : RepPs T.w T.K m H (acc.map (·.1)) (keysV xs)
  rv : Vals vs (xs.map (·.2.2))
  ra : RepA T.w T.K T.mg m H (acc.map (·.2)) vs
section
variable {T : Tx} {m1 m m' : Mm} {H1 H H' : Hp} {p : Addr} {h h' : Hm} {acc : List (PyData × D)} {xs : List (NestedKey × Addr × Value)} {vs : List V}
theorem Mkd.mem (G : Mkd T m1 H1 p m H h acc xs vs) : p ∈ m.v := by rw [G.v]; exact List.mem_cons_self ..
theorem Mkd.begin (S : Sim T.w T.K T.mg m1 H1 h) (hp : H1 p = none) (hs : (p == sysModules) = false) : Mkd T m1 H1 p (m1.hide p) (upd H1 p (.ext (DRaw T.w p [] 0))) h [] [] [] :=
  ⟨S.hide hp, rfl, Mov.hide hp, ⟨⟨[], by simp [Mm.hide], by simp⟩, rfl, fun a o q _ => by rw [upd_ne (ne_of_none q hp)]; exact q⟩, dn_empty hs, rfl, by simp [RepPs, keysV], .nil, by simp [RepA]⟩
theorem DN.on {w : World} {H H' : Hp} {p : Addr} {xs : List (NestedKey × Addr × Value)} (d : DN w H p xs) (e : ∀ o, H p = some o → H' p = some o) : DN w H' p xs := ⟨d.sys, d.sz, d.at_.imp fun _ z => e _ z, d.nd, d.dep⟩
theorem Mkd.on (G : Mkd T m1 H1 p m H h acc xs vs) (S' : Sim T.w T.K T.mg m' H' h') (E : Ext m H m' H') : Mkd T m1 H1 p m' H' h' acc xs vs := by
  refine ⟨S', E.same.trans G.v, G.M.trans E.mov, ?_, G.dn.on fun o e => E.keep _ _ e (G.S.pv p G.mem).2, G.ek, G.rk.mono E, G.rv, G.ra.mono E⟩
  have Y : Ext ⟨m.c, m1.v⟩ H ⟨m'.c, m1.v⟩ H' := ⟨E.pre, rfl, E.keep⟩
  refine G.X.trans Y fun a ha => ?_
  obtain ⟨t, et, _⟩ := G.X.pre
  have et' : m.c = m1.c ++ t := et
  exact G.S.isSomec (by rw [et']; exact List.mem_append_left _ ha)
theorem Mkd.add (G : Mkd T m1 H1 p m H h acc xs vs) (hp : H1 p = none) {y : D} {v : V} {r : Value} {q : PyData} {k : NestedKey} {b : Addr} {ep : Nat} (rr : RelV v r) (rv : Rep T.w T.K T.mg m H y v) (hq : q = k.data) (kd : k.depth ≤ 8) (kb : RepP T.w T.K m H k.data (.ref b)) (hz : acc.length < sizeLine) :
    ∃ vs', Mkd T m1 H1 p m (upd H p (.ext (DRaw T.w p (storedH xs k b r) ep))) h (dputL nkD acc k q y) (storedH xs k b r) vs' := by
  subst hq
  have lx : xs.length < sizeLine := by
    have := congrArg List.length G.ek
    simp only [keysD, List.length_map] at this
    omega
  obtain ⟨f1, f2, vs', f3, f4⟩ := rows_put (k := k) rr rv G.ek G.rk G.rv G.ra kb
  exact ⟨vs', G.S.priv G.mem, G.v, G.M.trans (Mov.priv G.mem), ⟨G.X.pre, rfl, fun a o q z => by rw [upd_ne (ne_of_none q hp)]; exact G.X.keep a o q z⟩, dn_put G.dn lx kd upd_same, f1, RepPs.mov (Mov.priv G.mem) _ _ f2, f3, RepA.mov (Mov.priv G.mem) _ _ f4⟩
theorem Mkd.hid (G : Mkd T m1 H1 p m H h acc xs vs) : m = Mm.hide ⟨m.c, m1.v⟩ p := by
  obtain ⟨c, v⟩ := m
  have ev : v = p :: m1.v := G.v
  subst ev
  rfl
end
/-- what the made dict becomes -/
def FinD (X : Cx) (W : XK) (fin : List (PyData × D) → M D) : Prop :=
  ∀ {m1 m : Mm} {H1 H : Hp} {h : Hm} {kvs : List (PyData × D)} {xs : List (NestedKey × Addr × Value)} {vs : List V} {p : Addr} {Q : VK}, p ∉ m1 → H1 p = none → Mkd (tb X) m1 H1 p m H h kvs xs vs → Post (tx X W) m1 H1 (Rep X.w X.K X.mg) (fin kvs h) Q → Q (.ref p) H
section
variable {X : Cx} {W : XK}
theorem find_dct : FinD X W mkDct := by
  intro m1 m H1 H h kvs xs vs p Q n1 n2 G hp
  unfold mkDct at hp
  cases epl : plain (kvs.map (·.2)) with
  | none => rw [epl] at hp; exact hp.elim
  | some ys =>
    rw [epl] at hp
    have em := G.hid
    have S2 := G.S
    have ra := G.ra
    have rk := G.rk
    rw [em] at S2 ra rk
    have nin : p ∉ (⟨m.c, m1.v⟩ : Mm) := by
      rintro (z | z)
      · exact (G.S.pv p G.mem).2 z
      · exact n1 (Or.inr z)
    have rp := plain_rep epl (RepA.mov Mov.show _ _ ra)
    have hl : (kvs.map (·.1)).length = ys.length := by
      have h1 := rp.length
      have h2 := G.ra.length
      simp only [List.length_map] at h2 ⊢
      omega
    have e1 : ((kvs.map (·.1)).zip ys).map (·.1) = kvs.map (·.1) := List.map_fst_zip (Nat.le_of_eq hl)
    have e2 : ((kvs.map (·.1)).zip ys).map (·.2) = ys := List.map_snd_zip (Nat.le_of_eq hl.symm)
    refine hp _ H _ S2.show G.X ?_
    simp only [Rep, RepP]
    exact ⟨p, keysV xs, vs, rfl, ⟨nin, .inr ⟨xs, G.dn, by rw [e1]; exact G.ek, rfl, G.rv⟩⟩, repKs_iff.mpr (by rw [e1]; exact RepPs.mov Mov.show _ _ rk), repVs_iff.mpr (by rw [e2]; exact rp)⟩
theorem find_cel : FinD X W newDN := by
  intro m1 m H1 H h kvs xs vs p Q n1 n2 G hp
  have em := G.hid
  have S2 := G.S
  have ra := G.ra
  have rk := G.rk
  rw [em] at S2 ra rk
  have hpv : p ∉ (⟨m.c, m1.v⟩ : Mm).v := fun z => n1 (Or.inr z)
  have S3 : Sim X.w X.K X.mg (Mm.push ⟨m.c, m1.v⟩ p) H (h ++ [.dct true kvs]) := S2.give hpv ⟨vs, RepA.mov Mov.give _ _ ra, .inr ⟨rfl, xs, G.dn, G.ek, RepPs.mov Mov.give _ _ rk, G.rv⟩⟩
  have hl : m.c.length = h.length := G.S.len
  refine hp (Mm.push ⟨m.c, m1.v⟩ p) H _ S3 ⟨?_, rfl, G.X.keep⟩ ?_
  · obtain ⟨t, et, ht⟩ := G.X.pre
    have et' : m.c = m1.c ++ t := et
    refine ⟨t ++ [p], by show m.c ++ [p] = _; rw [et', List.append_assoc], fun a ha => ?_⟩
    rcases List.mem_append.mp ha with z | z
    · exact ht a z
    · rw [List.mem_singleton.mp z]; exact n2
  · simp only [Rep]
    refine ⟨p, rfl, ?_⟩
    show (m.c ++ [p])[h.length]? = some p
    rw [← hl]
    simp
variable {own : List (Str × Nat)} {S : List Nat} {g : D → Ev → Hm → Option Ev} {tt : Ev → M Bool} {te tv : Ev → M D} {fi : Ev → M (List D)}
theorem bnd_runL {T : Tx} {m : Mm} {H : Hp} {α β : Type} {rel : Mm → Hp → D → β → Prop} {f : M α} {g : α → M D} {h : Hm} {Q : β → Hp → Prop} (hp : Post T m H rel (bnd (nox f) g h) Q) : ∃ a h', f h = .ok a h' ∧ Post T m H rel (g a h') Q := by
  unfold bnd nox at hp
  cases e : f h with
  | ok a h' => rw [e] at hp; exact ⟨a, h', rfl, hp⟩
  | exc _ _ => rw [e] at hp; exact hp.elim
  | bad => rw [e] at hp; exact hp.elim
theorem rd_dc {fin : List (PyData × D) → M D} (hF : FinD X W fin) (hS : ∀ i ∈ S, i ∈ own.map (·.2)) {σ : L2.St} {H : Hp} {Q : VK} (h : rdE (tx X W) (cmpDE fin fi (own.map (·.2)) g tt te tv) σ H Q) :
    tDcN X (rdI (tx X W) fi) (rdG (tb X) S g) (rdT (tb X) tt) (rdE (tb X) te) (rdE (tb X) tv) (own.map (·.2)) σ H Q := by
  obtain ⟨μ, m, h, Sm, V, hp⟩ := h
  refine ⟨μ, m, h, Sm, V, Post.bnd hp fun ds h1 m1 H1 J _ S1 X1 r1 hp1 => ?_⟩
  intro Da hD hsys
  have n1 : Da ∉ m1 := S1.notin hD
  obtain ⟨ys, hz, er, hp1⟩ := bnd_runL hp1
  refine ⟨fun i k H => ∃ m h acc xs vs, Mkd (tb X) m1 H1 Da m H h acc xs vs ∧ cmpDL g tt te tv (wipeE μ (own.map (·.2))) (ds.drop i) acc h = .ok ys hz ∧ k = ds.length - i ∧ i ≤ ds.length,
    ⟨_, m1.hide Da, h1, [], [], [], Mkd.begin S1 hD hsys, er, rfl, Nat.zero_le _⟩, ?_⟩
  intro i k H2 ⟨m2, h2, acc, xs, vs, G2, ec, ek, hi⟩
  by_cases hl : i < ds.length
  · have ed : ds[i]? = some ds[i] := List.getElem?_eq_getElem hl
    obtain ⟨hgo, hy⟩ := r1.go m2 H2 h2 G2.M G2.S i _ ed
    rw [List.drop_eq_getElem_cons hl] at ec
    refine .inr ⟨hgo, fun H' => ∃ m h acc xs vs, Mkd (tb X) m1 H1 Da m H' h acc xs vs ∧ cmpDL g tt te tv (wipeE μ (own.map (·.2))) (ds.drop (i + 1)) acc h = .ok ys hz, fun H' ⟨a1, a2, a3, a4, a5, b1, b2⟩ => ⟨ds.length - (i + 1), by omega, a1, a2, a3, a4, a5, b1, b2, rfl, hl⟩, fun x H3 hx => ?_⟩
    obtain ⟨S3, X3, r3⟩ := hy x H3 hx
    simp only [cmpDL] at ec
    cases eg : g ds[i] (wipeE μ (own.map (·.2))) h2 with
    | none => rw [eg] at ec; cases ec
    | some μ3 =>
      rw [eg] at ec
      have G3 := G2.on S3 X3
      have V3 : EnvR X.w X.K X.mg m2 H3 (wipeE μ (own.map (·.2))) (L2.wipe σ (own.map (·.2))) := ((V.mono X1).mov G3.M).wipe _
      refine ⟨wipeE μ (own.map (·.2)), m2, h2, ds[i], μ3, S3, V3, r3, eg, fun σ4 V4 A4 => ⟨wipe_agr hS A4, ?_⟩⟩
      obtain ⟨b, h5, eb, ec⟩ := bnd_ok ec
      refine ⟨μ3, m2, h2, S3, V4, run_post eb _ fun m5 H5 b' S5 X5 rb => ?_⟩
      subst rb
      have G5 := G3.on S5 X5
      cases b' with
      | false =>
        simp only [Bool.false_eq_true, if_false] at ec
        exact ⟨m5, h5, acc, xs, vs, G5, ec⟩
      | true =>
        simp only [if_true] at ec
        obtain ⟨kd, h6, ee, ecb⟩ := bnd_ok ec
        obtain ⟨y, h7, ev, ecc⟩ := bnd_ok ecb
        refine ⟨μ3, m5, h5, S5, V4.mono X5, run_post ee _ fun m6 H6 kv S6 X6 rk => ?_⟩
        have G6 := G5.on S6 X6
        refine ⟨μ3, m6, h6, S6, (V4.mono X5).mono X6, run_post ev _ fun m7 H7 v S7 X7 rv => ?_⟩
        have G7 := G6.on S7 X7
        cases kd with
        | p q =>
          simp only at ecc
          cases et : tk q with
          | none => rw [et] at ecc; cases ecc
          | some k =>
            rw [et] at ecc
            simp only [chk] at ecc
            by_cases hz' : acc.length < sizeLine
            · rw [if_pos hz'] at ecc
              simp only [Rep] at rk
              obtain ⟨b, rfl⟩ := tk_ref et rk
              obtain ⟨rfl, kdp, _⟩ := tk_of et
              have kb := rk.mono X7
              exact ⟨m7, xs, k, b, G7.dn, by rw [G7.ek]; exact G7.rk, rfl, kb, kdp, fun ep r rr => let ⟨vs', G8⟩ := G7.add (ep := ep) hD rr rv rfl kdp kb hz'; ⟨m7, h7, _, _, vs', G8, ecc⟩⟩
            · rw [if_neg hz'] at ecc; cases ecc
        | _ => cases ecc
  · have hi' : i = ds.length := by omega
    subst hi'
    rw [List.drop_length] at ec
    simp only [cmpDL, ret, R.ok.injEq] at ec
    obtain ⟨rfl, rfl⟩ := ec
    exact .inl ⟨r1.stop m2 H2 h2 G2.M G2.S, hF n1 hD G2 hp1⟩
theorem es_dc {k : Nat} {kx vx tg iter : Expr} {ifs : List Expr} {scope : Scope} {pos : Pos} {fin : List (PyData × D) → M D} (hr : Room k X.A) (hF : FinD X W fin) (hS : ∀ i ∈ S, i ∈ own.map (·.2)) (hc : X.calm = true) (hN : X.N.Nodup) (hi : IS X W tg iter fi) (ok : BlkOk X.N X.env.scope scope own)
    (hg : ∀ (s : Shared) (H : Hp) (C : Addr) (cl : List (Str × Addr)) (fp : List Addr), GS (X.blk s H scope (compEnvC scope cl C X.env) fp) (tb X) tg S g) (ht : ∀ (s : Shared) (H : Hp) (C : Addr) (cl : List (Str × Addr)) (fp : List Addr), PTs (X.blk s H scope (compEnvC scope cl C X.env) fp) ifs (rdT (tb X) tt))
    (hk : ∀ (s : Shared) (H : Hp) (C : Addr) (cl : List (Str × Addr)) (fp : List Addr), PE (X.blk s H scope (compEnvC scope cl C X.env) fp) kx (rdE (tb X) te)) (he : ∀ (s : Shared) (H : Hp) (C : Addr) (cl : List (Str × Addr)) (fp : List Addr), PE (X.blk s H scope (compEnvC scope cl C X.env) fp) vx (rdE (tb X) tv))
    (hs : ∀ x, foldedSetIterable iter X.env x = pure x := by intro _; rfl) : ES X W (.DictComp kx vx [⟨tg, iter, ifs, 0⟩] scope pos) (cmpDE fin fi (own.map (·.2)) g tt te tv) :=
  pe_imp (pe_dcN (by have := hr.units; omega) hc hN hi ok hg ht hk he hs) fun σ H Q h => rd_dc hF hS h
theorem ss_dc {k i : Nat} {y : Str} {py spos : Pos} {kx vx tg iter : Expr} {ifs : List Expr} {scope : Scope} {pos : Pos} {fin : List (PyData × D) → M D} (hr : Room k X.A) (hF : FinD X W fin) (hS : ∀ i ∈ S, i ∈ own.map (·.2)) (hc : X.calm = true) (hN : X.N.Nodup) (hy : X.N[i]? = some y) (hyl : X.env.scope.names.lookup y = some .local)
    (hsw : swapsWith (.DictComp kx vx [⟨tg, iter, ifs, 0⟩] scope pos) (some (.Name y py)) spos.line X.env = pure true) (hi : IS X W tg iter fi) (ok : BlkOk X.N X.env.scope scope own)
    (hg : ∀ (s : Shared) (H : Hp) (C : Addr) (cl : List (Str × Addr)) (fp : List Addr), GS (X.blk s H scope (compEnvC scope cl C X.env) fp) (tb X) tg S g) (ht : ∀ (s : Shared) (H : Hp) (C : Addr) (cl : List (Str × Addr)) (fp : List Addr), PTs (X.blk s H scope (compEnvC scope cl C X.env) fp) ifs (rdT (tb X) tt))
    (hk : ∀ (s : Shared) (H : Hp) (C : Addr) (cl : List (Str × Addr)) (fp : List Addr), PE (X.blk s H scope (compEnvC scope cl C X.env) fp) kx (rdE (tb X) te)) (he : ∀ (s : Shared) (H : Hp) (C : Addr) (cl : List (Str × Addr)) (fp : List Addr), PE (X.blk s H scope (compEnvC scope cl C X.env) fp) vx (rdE (tb X) tv))
    (hs : ∀ x, foldedSetIterable iter X.env x = pure x := by intro _; rfl) : SS X W (.Assign [.Name y py] (.DictComp kx vx [⟨tg, iter, ifs, 0⟩] scope pos) spos) (sSet i (cmpDE fin fi (own.map (·.2)) g tt te tv)) :=
  ps_imp (ps_setDcN (by have := hr.units; omega) hc hN hy hyl hsw hi ok hg ht hk he hs) fun E σ H ⟨μ, m, h, Sm, V, hp⟩ => rd_dc hF hS ⟨μ, m, h, Sm, V, PostS.bnd hp fun d h' m' H' v _ S' X' r hp' => hp' m' H' _ S' Ext.refl ((V.mono X').set r i)⟩
end
end MP
/-! MP25: an empty dict asked for -/
namespace MP
open PySem PySem.Spec PyProof.Rows PySem.W L2
open Sem (wp)
section
variable {X : Cx} {W : XK} {k : Nat} {pins : List (Addr × Obj)} {σ : L2.St} {H : Hp} {s : Shared}
theorem dn_none {K : Type} [DecidableEq K] (knd : KeyKind X.prog X.w K) {a : Addr} (I : Inv X pins σ H s) (d : DN X.w H a []) : s.heap.DictOf knd a [] := by
  obtain ⟨o, es, ep, ho, hx, hd, he⟩ := dn_raw I d
  have e : es = #[] := by
    have : es.toList = [] := by simpa using he
    exact Array.toList_eq_nil_iff.mp this
  subst e
  exact ⟨o, _, ep, ho, hx, hd, fun x hx => (by simp at hx), .nil, List.nodup_nil⟩
def eqE0 : D → D → M D
  | .p (.dict []), .p (.dict []) => ret (.p (.bool true))
  | _, _ => bad
theorem o_eqE0 (hr : Room k X.A) : Op2 X W (compareOp .Eq) eqE0 := by
  intro pins s σ H vx vy v u Q I rx ry h
  obtain ⟨m, h0, d, e, S, r1, r2, hp⟩ := h
  unfold eqE0 at hp
  split at hp
  · obtain ⟨a, xs, vs, rfl, _, dn, ek, _⟩ := froz_rep rfl r1
    obtain ⟨a', xs', vs', rfl, _, dn', ek', _⟩ := froz_rep rfl r2
    have x0 : xs = [] := by simpa [keysD] using ek
    have x0' : xs' = [] := by simpa [keysD] using ek'
    subst x0 x0'
    obtain rfl : v = Value.ref a := rx
    obtain rfl : u = Value.ref a' := ry
    refine keq_eq (knd := leafKind X.prog X.w) dn.sys dn'.sys (dn_none _ I dn) (dn_none _ I dn') (by have := hr.units; omega) (fun _ => .nil) ?_
    exact ⟨.bl true, H, I, rfl, hp m H _ S Ext.refl (by simp [Rep, RepP])⟩
  · exact hp.elim
end
end MP
/-! MW: what a mini run comes to, in plain words. -/
namespace MP
open PySem (PyData Str sizeLine)
/-- the run ends, and Q holds of what it gives and of the mini heap then -/
def W {α : Type} (f : M α) (h : Hm) (Q : α → Hm → Prop) : Prop := ∃ a h', f h = .ok a h' ∧ Q a h'
def Wr {α : Type} (r : R α) (Q : α → Hm → Prop) : Prop := ∃ a h', r = .ok a h' ∧ Q a h'
section
variable {α β : Type} {h : Hm} {Q : α → Hm → Prop} {Q' : β → Hm → Prop}
theorem w_def (f : M α) : W f h Q = Wr (f h) Q := rfl
@[simp] theorem wr_ok {a : α} : Wr (.ok a h) Q ↔ Q a h := ⟨fun ⟨_, _, e, q⟩ => by cases e; exact q, fun q => ⟨a, h, rfl, q⟩⟩
@[simp] theorem wr_bad : Wr (.bad : R α) Q ↔ False := ⟨fun ⟨_, _, e, _⟩ => (by cases e), False.elim⟩
@[simp] theorem wr_exc {e : Exn} : Wr (.exc e h : R α) Q ↔ False := ⟨fun ⟨_, _, e, _⟩ => (by cases e), False.elim⟩
@[simp] theorem w_ret {a : α} : W (ret a) h Q ↔ Q a h := wr_ok
@[simp] theorem w_bad : W (bad : M α) h Q ↔ False := wr_bad
@[simp] theorem w_bnd {f : M β} {g : β → M α} : W (bnd f g) h Q ↔ W f h fun a h' => W (g a) h' Q := by
  unfold W bnd
  constructor
  · rintro ⟨a, h', e, q⟩
    cases ef : f h with
    | ok b h1 => rw [ef] at e; exact ⟨b, h1, rfl, a, h', e, q⟩
    | exc x h1 => rw [ef] at e; cases e
    | bad => rw [ef] at e; cases e
  · rintro ⟨b, h1, e, a, h', e2, q⟩
    exact ⟨a, h', by rw [e]; exact e2, q⟩
@[simp] theorem w_chk {c : Prop} [Decidable c] {f : M α} : W (chk c f) h Q ↔ c ∧ W f h Q := by
  unfold W chk
  constructor
  · rintro ⟨a, h', e, q⟩
    by_cases hc : c
    · rw [if_pos hc] at e; exact ⟨hc, a, h', e, q⟩
    · rw [if_neg hc] at e; cases e
  · rintro ⟨hc, a, h', e, q⟩
    exact ⟨a, h', by rw [if_pos hc]; exact e, q⟩
@[simp] theorem w_nox {f : M α} : W (nox f) h Q ↔ W f h Q := by
  unfold W nox
  constructor
  · rintro ⟨a, h', e, q⟩
    cases ef : f h with
    | ok b h1 => rw [ef] at e; cases e; exact ⟨_, _, rfl, q⟩
    | exc x h1 => rw [ef] at e; cases e
    | bad => rw [ef] at e; cases e
  · rintro ⟨a, h', e, q⟩
    exact ⟨a, h', by rw [e], q⟩
@[simp] theorem w_noxc {γ : Type} {f : γ → M α} {x : γ} : W ((nox ∘ f) x) h Q ↔ W (f x) h Q := w_nox
theorem W.mono {f : M α} {P : α → Hm → Prop} (w : W f h Q) (q : ∀ a h', Q a h' → P a h') : W f h P := let ⟨a, h', e, x⟩ := w; ⟨a, h', e, q a h' x⟩
/-- a run that is known -/
theorem w_of {f : M α} {a : α} {h' : Hm} (e : f h = .ok a h') : W f h Q ↔ Q a h' := by rw [w_def, e]; exact wr_ok
@[simp] theorem w_ite {c : Prop} [Decidable c] {f g : M α} : W (if c then f else g) h Q ↔ if c then W f h Q else W g h Q := by split <;> rfl
@[simp] theorem w_rd1 {g : PyData → M α} {x : PyData} : W (rd1 g (.p x)) h Q ↔ W (g x) h Q := Iff.rfl
@[simp] theorem w_rd2 {g : PyData → PyData → M α} {x y : PyData} : W (rd2 g (.p x) (.p y)) h Q ↔ W (g x y) h Q := Iff.rfl
@[simp] theorem w_tyOk {T : String} {x : D} {Q : Unit → Hm → Prop} : W (tyOk T x) h Q ↔ isTyD T h x = true ∧ Q () h := by
  rw [w_def]
  unfold tyOk
  by_cases q : isTyD T h x = true
  · rw [if_pos q, wr_ok]; exact ⟨fun z => ⟨q, z⟩, fun z => z.2⟩
  · rw [if_neg q, wr_bad]; exact ⟨False.elim, fun z => q z.1⟩
end
@[simp] theorem bnd_ret {α β : Type} (a : α) (g : α → M β) : bnd (ret a) g = g a := rfl
@[simp] theorem var_zero (d : D) (μ : Ev) : var 0 (some d :: μ) = ret d := rfl
@[simp] theorem var_succ (o : Option D) (μ : Ev) (i : Nat) : var (i + 1) (o :: μ) = var i μ := rfl
@[simp] theorem cst_eq (x : PyData) (μ : Ev) : cst x μ = ret (.p x) := rfl
section
variable {h : Hm} {Q : Fl → Hm → Prop}
/-- what follows a statement -/
def nxt (g : Ev → M Fl) (Q : Fl → Hm → Prop) : Fl → Hm → Prop := fun o h => match o with
  | .nx μ => W (g μ) h Q
  | o => Q o h
@[simp] theorem nxt_nx (g : Ev → M Fl) (μ : Ev) : nxt g Q (.nx μ) h = W (g μ) h Q := rfl
@[simp] theorem nxt_rt (g : Ev → M Fl) (d : D) : nxt g Q (.rt d) h = Q (.rt d) h := rfl
@[simp] theorem nxt_bk (g : Ev → M Fl) (μ : Ev) : nxt g Q (.bk μ) h = Q (.bk μ) h := rfl
@[simp] theorem nxt_ct (g : Ev → M Fl) (μ : Ev) : nxt g Q (.ct μ) h = Q (.ct μ) h := rfl
@[simp] theorem w_seq {f g : Ev → M Fl} {μ : Ev} : W (sSeq f g μ) h Q ↔ W (f μ) h (nxt g Q) := by
  unfold sSeq
  rw [w_bnd]
  constructor
  · intro w
    refine w.mono fun o h' q => ?_
    cases o with
    | nx μ' => exact q
    | rt d => show Q (.rt d) h'; exact w_ret.mp q
    | bk μ' => show Q (.bk μ') h'; exact w_ret.mp q
    | ct μ' => show Q (.ct μ') h'; exact w_ret.mp q
  · intro w
    refine w.mono fun o h' q => ?_
    cases o with
    | nx μ' => exact q
    | rt d => exact w_ret.mpr q
    | bk μ' => exact w_ret.mpr q
    | ct μ' => exact w_ret.mpr q
@[simp] theorem w_seti {i : Nat} {f : Ev → M D} {μ : Ev} : W (sSet i f μ) h Q ↔ W (f μ) h fun d h' => Q (.nx (μ.set i (some d))) h' := by
  unfold sSet; simp only [w_bnd, w_ret]
@[simp] theorem w_sret {f : Ev → M D} {μ : Ev} : W (sRet f μ) h Q ↔ W (f μ) h fun d h' => Q (.rt d) h' := by
  unfold sRet; simp only [w_bnd, w_ret]
@[simp] theorem w_sdrop {f : Ev → M D} {μ : Ev} : W (sDrop f μ) h Q ↔ W (f μ) h fun d h' => Q (.nx μ) h' := by
  unfold sDrop; simp only [w_bnd, w_ret]
@[simp] theorem w_snil {μ : Ev} : W (sNil μ) h Q ↔ Q (.nx μ) h := w_ret
@[simp] theorem w_sif {c : Ev → M Bool} {f g : Ev → M Fl} {μ : Ev} : W (sIf c f g μ) h Q ↔ W (c μ) h fun b h' => if b = true then W (f μ) h' Q else W (g μ) h' Q := by
  unfold sIf; simp only [w_bnd, w_ite]
@[simp] theorem w_ssub {fe fo fi : Ev → M D} {μ : Ev} : W (sSub fe fo fi μ) h Q ↔ W (fe μ) h fun d h1 => W (fo μ) h1 fun x h2 => W (fi μ) h2 fun i h3 => W (setD x i d) h3 fun _ h4 => Q (.nx μ) h4 := by
  unfold sSub; simp only [w_bnd, w_ret]
@[simp] theorem w_sasg {g : D → Ev → Hm → Option Ev} {f : Ev → M D} {μ : Ev} : W (sAsg g f μ) h Q ↔ W (f μ) h fun d h' => ∃ μ', g d μ h' = some μ' ∧ Q (.nx μ') h' := by
  unfold sAsg
  rw [w_bnd]
  have : ∀ d h', W (fun h => match g d μ h with
      | some μ' => R.ok (Fl.nx μ') h
      | none => R.bad) h' Q ↔ ∃ μ', g d μ h' = some μ' ∧ Q (.nx μ') h' := fun d h' => by
    rw [w_def]
    cases g d μ h' with
    | none => simp
    | some μ' => simp
  exact ⟨fun w => w.mono fun d h' q => (this d h').mp q, fun w => w.mono fun d h' q => (this d h').mpr q⟩
theorem w_for {fi : Ev → M (List D)} {g : D → Ev → Hm → Option Ev} {body : Ev → M Fl} {μ : Ev} : W (sFor fi g body μ) h Q ↔ W (fi μ) h fun ds h' => W (forL g body ds μ) h' Q := by
  unfold sFor; rw [w_bnd]
/-- a loop by its word: Inv holds of the items that are left, the slots, the mini heap -/
theorem w_forL {g : D → Ev → Hm → Option Ev} {body : Ev → M Fl} (Inv : List D → Ev → Hm → Prop) (h0 : ∀ μ h, Inv [] μ h → Q (.nx μ) h)
    (hs : ∀ d ds μ h, Inv (d :: ds) μ h → ∃ μ', g d μ h = some μ' ∧ W (body μ') h fun o h' => match o with
      | .nx μ2 => Inv ds μ2 h'
      | .ct μ2 => Inv ds μ2 h'
      | .bk μ2 => Q (.nx μ2) h'
      | .rt v => Q (.rt v) h') : ∀ ds μ h, Inv ds μ h → W (forL g body ds μ) h Q
  | [], μ, h, i => w_ret.mpr (h0 μ h i)
  | d :: ds, μ, h, i => by
    obtain ⟨μ', e, w⟩ := hs d ds μ h i
    rw [w_def]
    unfold forL
    rw [e]
    show W (bnd (body μ') _) h Q
    rw [w_bnd]
    refine w.mono fun o h' q => ?_
    cases o with
    | nx μ2 => exact w_forL Inv h0 hs ds μ2 h' q
    | ct μ2 => exact w_forL Inv h0 hs ds μ2 h' q
    | bk μ2 => exact w_ret.mpr q
    | rt v => exact w_ret.mpr q
/-- a def -/
theorem w_fn {lv : Nat → D → Hm → R D} {N : Nat} {body : Ev → M Fl} {ds : List D} {Q : D → Hm → Prop} : W (fnM lv N body ds) h Q ↔ W (body (ds.map some ++ List.replicate (N - ds.length) none)) h fun o h' => match o with
    | .rt d => Wr (lv h.length d h') Q
    | .nx _ => Wr (lv h.length (.p .none) h') Q
    | _ => False := by
  rw [w_def]
  unfold fnM
  rw [w_def]
  cases body (ds.map some ++ List.replicate (N - ds.length) none) h with
  | ok o h' => cases o <;> simp
  | exc e h' => simp
  | bad => simp
end
/-- left with as many cells as at the entry -/
theorem leave_same {n : Nat} {d : D} {h : Hm} {Q : D → Hm → Prop} (e : h.length = n) : Wr (leave n d h) Q ↔ Q d h := by
  unfold leave; rw [if_pos e]; exact wr_ok
theorem leaveK_eq {n : Nat} {d : D} {h : Hm} {Q : D → Hm → Prop} : Wr (leaveK n d h) Q ↔ Q d h := wr_ok
/-! comprehensions -/
section
variable {h : Hm}
theorem w_cmpE {fin : List D → M D} {fi : Ev → M (List D)} {vs : List Nat} {g : D → Ev → Hm → Option Ev} {tt : Ev → M Bool} {te : Ev → M D} {μ : Ev} {Q : D → Hm → Prop} :
    W (cmpE fin fi vs g tt te μ) h Q ↔ W (fi μ) h fun ds h' => W (cmpL g tt te (wipeE μ vs) ds) h' fun ys h2 => W (fin ys) h2 Q := by
  unfold cmpE; simp only [w_bnd, w_nox]
/-- a comprehension by its word, the items made so far in it -/
theorem w_cmpL {g : D → Ev → Hm → Option Ev} {tt : Ev → M Bool} {te : Ev → M D} {μ : Ev} (Inv : List D → List D → Hm → Prop)
    (hs : ∀ d ds ys h, Inv (d :: ds) ys h → ∃ μ', g d μ h = some μ' ∧ W (tt μ') h fun b h1 => if b = true then W (te μ') h1 fun y h2 => Inv ds (ys ++ [y]) h2 else Inv ds ys h1) :
    ∀ ds ys h (Q : List D → Hm → Prop), Inv ds ys h → (∀ zs h', Inv [] (ys ++ zs) h' → Q zs h') → W (cmpL g tt te μ ds) h Q
  | [], ys, h, Q, i, q => w_ret.mpr (q [] h (by simpa using i))
  | d :: ds, ys, h, Q, i, q => by
    obtain ⟨μ', e, w⟩ := hs d ds ys h i
    rw [w_def]
    unfold cmpL
    rw [e]
    show W (bnd (tt μ') _) h Q
    rw [w_bnd]
    refine w.mono fun b h1 z => ?_
    cases b with
    | false =>
      simp only [Bool.false_eq_true, if_false] at z ⊢
      exact w_cmpL Inv hs ds ys h1 Q z q
    | true =>
      simp only [if_true] at z ⊢
      rw [w_bnd]
      refine z.mono fun y h2 i2 => ?_
      rw [w_bnd]
      refine w_cmpL Inv hs ds (ys ++ [y]) h2 _ i2 fun zs h3 i3 => ?_
      rw [w_ret]
      exact q (y :: zs) h3 (by simpa using i3)
/-- a comprehension that changes nothing: told by a test and a function of the items -/
theorem cmpL_pure {g : D → Ev → Hm → Option Ev} {tt : Ev → M Bool} {te : Ev → M D} {μ : Ev} {h : Hm} (p : D → Bool) (f : D → D) : ∀ (ds : List D),
    (∀ d ∈ ds, ∃ μ', g d μ h = some μ' ∧ tt μ' h = .ok (p d) h ∧ (p d = true → te μ' h = .ok (f d) h)) → cmpL g tt te μ ds h = .ok ((ds.filter p).map f) h
  | [], _ => rfl
  | d :: ds, H => by
    obtain ⟨μ', e, e1, e2⟩ := H d (List.mem_cons_self ..)
    have ih := cmpL_pure p f ds fun d hd => H d (List.mem_cons_of_mem _ hd)
    unfold cmpL
    rw [e]
    show bnd (tt μ') _ h = _
    unfold bnd
    rw [e1]
    cases hp : p d with
    | false =>
      simp only [Bool.false_eq_true, if_false, ih, List.filter_cons, hp]
    | true =>
      simp only [if_true, e2 hp, ih, List.filter_cons, hp, List.map_cons]
      rfl
end
section
variable {h : Hm} {μ : Ev}
@[simp] theorem w_bin {g : D → D → M D} {fa fb : Ev → M D} {Q : D → Hm → Prop} : W (bin g fa fb μ) h Q ↔ W (fa μ) h fun x h1 => W (fb μ) h1 fun y h2 => W (g x y) h2 Q := by unfold bin; simp only [w_bnd]
@[simp] theorem w_un {g : D → M D} {fa : Ev → M D} {Q : D → Hm → Prop} : W (un g fa μ) h Q ↔ W (fa μ) h fun x h1 => W (g x) h1 Q := by unfold un; simp only [w_bnd]
@[simp] theorem w_aNil {Q : List D → Hm → Prop} : W (aNil μ) h Q ↔ Q [] h := w_ret
@[simp] theorem w_aCons {fa : Ev → M D} {fr : Ev → M (List D)} {Q : List D → Hm → Prop} : W (aCons fa fr μ) h Q ↔ W (fa μ) h fun x h1 => W (fr μ) h1 fun xs h2 => Q (x :: xs) h2 := by unfold aCons; simp only [w_bnd, w_ret]
@[simp] theorem w_ifE {c : Ev → M Bool} {fa fb : Ev → M D} {Q : D → Hm → Prop} : W (ifE c fa fb μ) h Q ↔ W (c μ) h fun b h1 => if b = true then W (fa μ) h1 Q else W (fb μ) h1 Q := by unfold ifE; simp only [w_bnd, w_ite]
@[simp] theorem w_tst {f : Ev → M D} {Q : Bool → Hm → Prop} : W (tst f μ) h Q ↔ W (f μ) h fun x h1 => W (truD x) h1 Q := by unfold tst; simp only [w_bnd]
/-- the value is a bool -/
def isB (Q : Bool → Hm → Prop) : D → Hm → Prop := fun d h => match d with
  | .p (.bool b) => Q b h
  | _ => False
@[simp] theorem isB_b {Q : Bool → Hm → Prop} {b : Bool} : isB Q (.p (.bool b)) h = Q b h := rfl
@[simp] theorem w_tstB {f : Ev → M D} {Q : Bool → Hm → Prop} : W (tstB f μ) h Q ↔ W (f μ) h (isB Q) := by
  unfold tstB
  rw [w_bnd]
  have : ∀ d h', W (match d with
      | .p (.bool b) => ret b
      | _ => bad : M Bool) h' Q ↔ isB Q d h' := fun d h' => by
    cases d with
    | p x => cases x <;> simp [isB]
    | _ => simp [isB]
  exact ⟨fun w => w.mono fun d h' q => (this d h').mp q, fun w => w.mono fun d h' q => (this d h').mpr q⟩
@[simp] theorem w_notT {c : Ev → M Bool} {Q : Bool → Hm → Prop} : W (notT c μ) h Q ↔ W (c μ) h fun b h1 => Q (!b) h1 := by unfold notT; simp only [w_bnd, w_ret]
@[simp] theorem w_andT {c d : Ev → M Bool} {Q : Bool → Hm → Prop} : W (andT c d μ) h Q ↔ W (c μ) h fun b h1 => if b = true then W (d μ) h1 Q else Q false h1 := by unfold andT; simp only [w_bnd, w_ret, w_ite]
@[simp] theorem w_orT {c d : Ev → M Bool} {Q : Bool → Hm → Prop} : W (orT c d μ) h Q ↔ W (c μ) h fun b h1 => if b = true then Q true h1 else W (d μ) h1 Q := by unfold orT; simp only [w_bnd, w_ret, w_ite]
@[simp] theorem w_notE {f : Ev → M D} {Q : D → Hm → Prop} : W (notE f μ) h Q ↔ W (f μ) h fun x h1 => W (truD x) h1 fun b h2 => Q (.p (.bool (!b))) h2 := by unfold notE; simp only [w_bnd, w_ret]
@[simp] theorem w_andE {f g : Ev → M D} {Q : D → Hm → Prop} : W (andE f g μ) h Q ↔ W (f μ) h fun x h1 => W (truD x) h1 fun b h2 => if b = true then W (g μ) h2 Q else Q x h2 := by unfold andE; simp only [w_bnd, w_ret, w_ite]
@[simp] theorem w_orE {f g : Ev → M D} {Q : D → Hm → Prop} : W (orE f g μ) h Q ↔ W (f μ) h fun x h1 => W (truD x) h1 fun b h2 => if b = true then Q x h2 else W (g μ) h2 Q := by unfold orE; simp only [w_bnd, w_ret, w_ite]
@[simp] theorem w_chain {g g' : D → D → M D} {fa fb fc : Ev → M D} {Q : D → Hm → Prop} : W (chain g g' fa fb fc μ) h Q ↔ W (fa μ) h fun x h1 => W (fb μ) h1 fun y h2 => W (g x y) h2 (isB fun k h3 => if k = true then W (fc μ) h3 fun w h4 => W (g' y w) h4 Q else Q (.p (.bool false)) h3) := by
  unfold chain
  simp only [w_bnd]
  have : ∀ y d h', W (match d with
      | .p (.bool k) => if k = true then bnd (fc μ) fun w => g' y w else ret (.p (.bool false))
      | _ => bad : M D) h' Q ↔ isB (fun k h3 => if k = true then W (fc μ) h3 fun w h4 => W (g' y w) h4 Q else Q (.p (.bool false)) h3) d h' := fun y d h' => by
    cases d with
    | p x => cases x <;> simp [isB]
    | _ => simp [isB]
  exact ⟨fun w => w.mono fun x h1 w => w.mono fun y h2 w => w.mono fun d h' q => (this y d h').mp q, fun w => w.mono fun x h1 w => w.mono fun y h2 w => w.mono fun d h' q => (this y d h').mpr q⟩
@[simp] theorem w_app {g : List D → M D} {fa : Ev → M (List D)} {Q : D → Hm → Prop} : W (app g fa μ) h Q ↔ W (fa μ) h fun xs h1 => W (g xs) h1 Q := by unfold app; simp only [w_bnd]
@[simp] theorem w_one {g : PyData → M D} {x : PyData} {Q : D → Hm → Prop} : W (one g [.p x]) h Q ↔ W (g x) h Q := Iff.rfl
@[simp] theorem w_appN {n : Nat} {F : List D → M D} {fa : Ev → M (List D)} {Q : D → Hm → Prop} : W (appN n (nox ∘ F) fa μ) h Q ↔ W (fa μ) h fun xs h1 => xs.length = n ∧ W (F xs) h1 Q := by unfold appN; simp only [w_bnd, w_chk, w_noxc]
@[simp] theorem w_tupE {f : Ev → M (List D)} {Q : D → Hm → Prop} : W (tupE f μ) h Q ↔ W (f μ) h fun xs h1 => W (mkTup xs) h1 Q := by unfold tupE; simp only [w_bnd]
@[simp] theorem w_lstE {f : Ev → M (List D)} {Q : D → Hm → Prop} : W (lstE f μ) h Q ↔ W (f μ) h fun xs h1 => W (mkLst xs) h1 Q := by unfold lstE; simp only [w_bnd]
@[simp] theorem w_celE {f : Ev → M (List D)} {Q : D → Hm → Prop} : W (celE f μ) h Q ↔ W (f μ) h fun xs h1 => W (newL xs) h1 Q := by unfold celE; simp only [w_bnd]
@[simp] theorem w_newL {xs : List D} {Q : D → Hm → Prop} : W (newL xs) h Q ↔ xs.length ≤ sizeLine ∧ Q (.cell h.length) (h ++ [.lst xs]) := by unfold newL; rw [w_chk, w_def]; simp
@[simp] theorem plain_nil : plain [] = some [] := rfl
@[simp] theorem plain_cons {x : PyData} {ds : List D} : plain (.p x :: ds) = (plain ds).map (x :: ·) := by
  rw [plain]
theorem plain_map : ∀ (xs : List PyData), plain (xs.map .p) = some xs
  | [] => rfl
  | x :: xs => by rw [List.map_cons, plain_cons, plain_map xs]; rfl
theorem w_mkTup {ds : List D} {xs : List PyData} {Q : D → Hm → Prop} (e : plain ds = some xs) : W (mkTup ds) h Q ↔ ds.length ≤ sizeLine ∧ Q (.p (.tuple xs)) h := by unfold mkTup; rw [w_chk, e]; simp
theorem w_mkLst {ds : List D} {xs : List PyData} {Q : D → Hm → Prop} (e : plain ds = some xs) : W (mkLst ds) h Q ↔ ds.length ≤ sizeLine ∧ Q (.p (.list xs)) h := by unfold mkLst; rw [w_chk, e]; simp
@[simp] theorem w_meth {T : String} {g : D → List D → M D} {fo : Ev → M D} {fa : Ev → M (List D)} {Q : D → Hm → Prop} : W (meth T g fo fa μ) h Q ↔ W (fo μ) h fun x h1 => isTyD T h1 x = true ∧ W (fa μ) h1 fun xs h2 => W (g x xs) h2 Q := by unfold meth; simp only [w_bnd, w_tyOk]
@[simp] theorem w_slcE {fa : Ev → M D} {fl fh : Ev → M (Option Int)} {Q : D → Hm → Prop} : W (slcE fa fl fh μ) h Q ↔ W (fa μ) h fun x h1 => W (fl μ) h1 fun lo h2 => W (fh μ) h2 fun hi h3 => W (rd1 (slcP lo hi) x) h3 Q := by unfold slcE; simp only [w_bnd]
/-- the value is an int -/
def isI (Q : Option Int → Hm → Prop) : D → Hm → Prop := fun d h => match d with
  | .p (.int i) => Q (some i) h
  | _ => False
@[simp] theorem isI_i {Q : Option Int → Hm → Prop} {i : Int} : isI Q (.p (.int i)) h = Q (some i) h := rfl
@[simp] theorem w_partE {f : Ev → M D} {Q : Option Int → Hm → Prop} : W (partE f μ) h Q ↔ W (f μ) h (isI Q) := by
  unfold partE
  rw [w_bnd]
  have : ∀ d h', W (match d with
      | .p (.int i) => ret (some i)
      | _ => bad : M (Option Int)) h' Q ↔ isI Q d h' := fun d h' => by
    cases d with
    | p x => cases x <;> simp [isI]
    | _ => simp [isI]
  exact ⟨fun w => w.mono fun d h' q => (this d h').mp q, fun w => w.mono fun d h' q => (this d h').mpr q⟩
@[simp] theorem w_partN {Q : Option Int → Hm → Prop} : W (partN μ) h Q ↔ Q none h := w_ret
@[simp] theorem w_yesT {Q : Bool → Hm → Prop} : W (yesT μ) h Q ↔ Q true h := w_ret
/-- the value is a list of data -/
def isL (Q : List D → Hm → Prop) : D → Hm → Prop := fun d h => match d with
  | .p (.list xs) => Q (xs.map .p) h
  | _ => False
@[simp] theorem isL_l {Q : List D → Hm → Prop} {xs : List PyData} : isL Q (.p (.list xs)) h = Q (xs.map .p) h := rfl
@[simp] theorem w_itL {f : Ev → M D} {Q : List D → Hm → Prop} : W (itL f μ) h Q ↔ W (f μ) h (isL Q) := by
  unfold itL
  rw [w_bnd]
  have : ∀ d h', W (match d with
      | .p (.list xs) => ret (xs.map .p)
      | _ => bad : M (List D)) h' Q ↔ isL Q d h' := fun d h' => by
    cases d with
    | p x => cases x <;> simp [isL]
    | _ => simp [isL]
  exact ⟨fun w => w.mono fun d h' q => (this d h').mp q, fun w => w.mono fun d h' q => (this d h').mpr q⟩
/-- the value is a text -/
def isS (Q : List D → Hm → Prop) : D → Hm → Prop := fun d h => match d with
  | .p (.str x) => Q (sgnL x) h
  | _ => False
@[simp] theorem isS_s {Q : List D → Hm → Prop} {x : Str} : isS Q (.p (.str x)) h = Q (sgnL x) h := rfl
@[simp] theorem w_itS {f : Ev → M D} {Q : List D → Hm → Prop} : W (itS f μ) h Q ↔ W (f μ) h (isS Q) := by
  unfold itS
  rw [w_bnd]
  have : ∀ d h', W (match d with
      | .p (.str x) => ret (sgnL x)
      | _ => bad : M (List D)) h' Q ↔ isS Q d h' := fun d h' => by
    cases d with
    | p x => cases x <;> simp [isS]
    | _ => simp [isS]
  exact ⟨fun w => w.mono fun d h' q => (this d h').mp q, fun w => w.mono fun d h' q => (this d h').mpr q⟩
/-- one int -/
def is1 (Q : Int → Hm → Prop) : List D → Hm → Prop := fun ds h => match ds with
  | [.p (.int j)] => Q j h
  | _ => False
@[simp] theorem is1_i {Q : Int → Hm → Prop} {i : Int} : is1 Q [.p (.int i)] h = Q i h := rfl
@[simp] theorem w_itR1 {f : Ev → M (List D)} {Q : List D → Hm → Prop} : W (itR1 f μ) h Q ↔ W (f μ) h (is1 fun j h' => (-(2 ^ 62) ≤ j ∧ j < 2 ^ 62) ∧ Q (rngL 0 j.toNat) h') := by
  unfold itR1
  rw [w_bnd]
  have : ∀ d h', W (match d with
      | [.p (.int j)] => chk (-(2 ^ 62) ≤ j ∧ j < 2 ^ 62) (ret (rngL 0 j.toNat))
      | _ => bad : M (List D)) h' Q ↔ is1 (fun j h' => (-(2 ^ 62) ≤ j ∧ j < 2 ^ 62) ∧ Q (rngL 0 j.toNat) h') d h' := fun d h' => by
    split
    · rw [w_chk, w_ret]; rfl
    · rename_i hn
      rw [w_bad]
      unfold is1
      split
      · exact absurd rfl (hn _)
      · rfl
  exact ⟨fun w => w.mono fun d h' q => (this d h').mp q, fun w => w.mono fun d h' q => (this d h').mpr q⟩
end
/-! operations, told apart by what they are given -/
section
variable {h : Hm} {Q : D → Hm → Prop}
@[simp] theorem addP_i (i j : Int) : addP (.int i) (.int j) = ret (.p (.int (i + j))) := rfl
@[simp] theorem addP_s (x y : Str) : addP (.str x) (.str y) = chk (x.length + y.length ≤ sizeLine) (ret (.p (.str (x ++ y)))) := rfl
@[simp] theorem addP_l (xs ys : List PyData) : addP (.list xs) (.list ys) = chk (xs.length + ys.length ≤ sizeLine) (ret (.p (.list (xs ++ ys)))) := rfl
@[simp] theorem addP_t (xs ys : List PyData) : addP (.tuple xs) (.tuple ys) = chk (xs.length + ys.length ≤ sizeLine) (ret (.p (.tuple (xs ++ ys)))) := rfl
@[simp] theorem subP_i (i j : Int) : subP (.int i) (.int j) = ret (.p (.int (i - j))) := rfl
@[simp] theorem mulP_i (i j : Int) : mulP (.int i) (.int j) = chk ((-(2 ^ 64) < i ∧ i < 2 ^ 64) ∨ (-(2 ^ 64) < j ∧ j < 2 ^ 64)) (ret (.p (.int (i * j)))) := rfl
@[simp] theorem mulP_s (x : Str) (n : Int) : mulP (.str x) (.int n) = chk (n < 1000000 ∧ -1000000 < n ∧ x.length < 1000 ∧ x.length * n.toNat ≤ sizeLine) (ret (.p (.str (strMul x n)))) := rfl
@[simp] theorem divP_i (i j : Int) : divP (.int i) (.int j) = chk (0 < j ∧ j < 1073741824) (ret (.p (.int (i / j)))) := rfl
@[simp] theorem modP_i (i j : Int) : modP (.int i) (.int j) = chk (0 < j) (ret (.p (.int (i % j)))) := rfl
@[simp] theorem powP_i (i j : Int) : powP (.int i) (.int j) = chk (0 ≤ j ∧ j ≤ 1000000 ∧ i.natAbs < 2 ^ 64) (ret (.p (.int (i ^ j.toNat)))) := rfl
@[simp] theorem negD_i (i : Int) : negD (.p (.int i)) = ret (.p (.int (-i))) := rfl
@[simp] theorem intP_i (f : Int → Int → Bool) (i j : Int) : intP f (.int i) (.int j) = ret (.p (.bool (f i j))) := rfl
@[simp] theorem absP_i (i : Int) : absP (.int i) = ret (.p (.int (if i < 0 then -i else i))) := rfl
@[simp] theorem intOf_i (i : Int) : intOf (.int i) = ret (.p (.int i)) := rfl
@[simp] theorem intOf_b (i : Bool) : intOf (.bool i) = ret (.p (.int (if i then 1 else 0))) := rfl
@[simp] theorem lenP_s (z : Str) : lenP (.str z) = chk (z.length ≤ sizeLine) (ret (.p (.int z.length))) := rfl
@[simp] theorem lenP_l (xs : List PyData) : lenP (.list xs) = ret (.p (.int xs.length)) := rfl
@[simp] theorem lenP_t (xs : List PyData) : lenP (.tuple xs) = ret (.p (.int xs.length)) := rfl
@[simp] theorem truD_n : truD (.p .none) = ret false := rfl
@[simp] theorem truD_b (b : Bool) : truD (.p (.bool b)) = ret b := rfl
@[simp] theorem truD_i (i : Int) : truD (.p (.int i)) = ret (i != 0) := rfl
@[simp] theorem truD_s (x : Str) : truD (.p (.str x)) = chk (x.length ≤ sizeLine) (ret ((x.length : Int) != 0)) := rfl
@[simp] theorem truD_l (xs : List PyData) : truD (.p (.list xs)) = ret (!xs.isEmpty) := rfl
@[simp] theorem truD_t (xs : List PyData) : truD (.p (.tuple xs)) = ret (!xs.isEmpty) := rfl
@[simp] theorem slcP_l (lo hi : Option Int) (xs : List PyData) : slcP lo hi (.list xs) = ret (.p (.list (cutP xs lo hi))) := rfl
@[simp] theorem slcP_t (lo hi : Option Int) (xs : List PyData) : slcP lo hi (.tuple xs) = ret (.p (.tuple (cutP xs lo hi))) := rfl
@[simp] theorem slcP_s (lo hi : Option Int) (z : Str) : slcP lo hi (.str z) = chk (z.length ≤ sizeLine) (ret (.p (.str (cutStr z lo hi)))) := rfl
@[simp] theorem listOf_l (xs : List PyData) : listOf (.list xs) = ret (.p (.list xs)) := rfl
@[simp] theorem listOf_t (xs : List PyData) : listOf (.tuple xs) = ret (.p (.list xs)) := rfl
@[simp] theorem tupOf_l (xs : List PyData) : tupOf (.list xs) = ret (.p (.tuple xs)) := rfl
@[simp] theorem tupOf_t (xs : List PyData) : tupOf (.tuple xs) = ret (.p (.tuple xs)) := rfl
@[simp] theorem isND_n (neg : Bool) (x : D) : isND neg x (.p .none) = ret (.p (.bool (if neg then !isN x else isN x))) := rfl
/-- a subscript of a cell -/
@[simp] theorem w_ixc {n : Nat} {i : Int} : W (idxD (.cell n) (.p (.int i))) h Q ↔ ∃ xs x, h[n]? = some (.lst xs) ∧ L2.atI xs i = some x ∧ Q x h := by
  rw [w_def]
  show Wr (match h[n]? with
    | some (.lst xs) => (match L2.atI xs i with
      | some x => .ok x h
      | none => .bad)
    | _ => .bad) Q ↔ _
  cases e : h[n]? with
  | none => simp
  | some c =>
    cases c with
    | lst xs =>
      cases e2 : L2.atI xs i with
      | none => simp [e2]
      | some x => simp [e2]
    | dct t kvs => simp
    | obj cls fs => simp
/-- .. of data -/
@[simp] theorem w_ixl {xs : List PyData} {i : Int} : W (idxD (.p (.list xs)) (.p (.int i))) h Q ↔ ∃ x, L2.atI xs i = some x ∧ Q (.p x) h := by
  show W (atP xs i) h Q ↔ _
  unfold atP
  cases e2 : L2.atI xs i with
  | none => simp
  | some x => simp
@[simp] theorem w_ixt {xs : List PyData} {i : Int} : W (idxD (.p (.tuple xs)) (.p (.int i))) h Q ↔ ∃ x, L2.atI xs i = some x ∧ Q (.p x) h := by
  show W (atP xs i) h Q ↔ _
  unfold atP
  cases e2 : L2.atI xs i with
  | none => simp
  | some x => simp
@[simp] theorem w_ixs {z : Str} {i : Int} : W (idxD (.p (.str z)) (.p (.int i))) h Q ↔ z.length ≤ sizeLine ∧ ∃ c, L2.atI z.cps.toList i = some c ∧ Q (.p (.str ⟨#[c]⟩)) h := by
  show W (chk (z.length ≤ sizeLine) (match L2.atI z.cps.toList i with
      | some c => ret (.p (.str ⟨#[c]⟩))
      | none => bad)) h Q ↔ _
  rw [w_chk]
  cases e2 : L2.atI z.cps.toList i with
  | none => simp
  | some x => simp
/-- writing into a cell's list -/
@[simp] theorem w_setc {n : Nat} {i : Int} {d : D} : W (setD (.cell n) (.p (.int i)) d) h Q ↔ ∃ xs j, h[n]? = some (.lst xs) ∧ L2.ixN xs.length i = some j ∧ Q (.p .none) (h.set n (.lst (xs.set j d))) := by
  rw [w_def]
  show Wr (match h[n]? with
    | some (.lst xs) => (match setK d i xs with
      | .ok (d, ys) _ => .ok d (h.set n (.lst ys))
      | _ => .bad)
    | _ => .bad) Q ↔ _
  cases e : h[n]? with
  | none => simp
  | some c =>
    cases c with
    | lst xs =>
      unfold setK
      cases e2 : L2.ixN xs.length i with
      | none => simp [e2]
      | some x => simp [e2]
    | dct t kvs => simp
    | obj cls fs => simp
@[simp] theorem w_appc {n : Nat} {d : D} : W (appendD (.cell n) [d]) h Q ↔ ∃ xs, h[n]? = some (.lst xs) ∧ xs.length < sizeLine ∧ Q (.p .none) (h.set n (.lst (xs ++ [d]))) := by
  rw [w_def]
  show Wr (match h[n]? with
    | some (.lst xs) => (match appK d xs with
      | .ok (d, ys) _ => .ok d (h.set n (.lst ys))
      | _ => .bad)
    | _ => .bad) Q ↔ _
  cases e : h[n]? with
  | none => simp
  | some c =>
    cases c with
    | lst xs =>
      unfold appK
      by_cases z : xs.length < sizeLine
      · simp [z]
      · simp [z]
    | dct t kvs => simp
    | obj cls fs => simp
@[simp] theorem w_eqP {neg : Bool} {x y : PyData} : W (eqP neg x y) h Q ↔ (twoS x y = true ∨ (PySem.SeqAt.shaped x = true ∧ PySem.SeqAt.shaped y = true)) ∧ Q (.p (.bool (if neg then !PyData.eqv x y else PyData.eqv x y))) h := by
  unfold eqP; rw [w_chk, w_ret]
theorem w_isi {x : D} {t n : String} (e : tyN h x = some t) (hn : n ∈ ["bool", "int", "str", "list", "tuple", "dict"]) : W (isiD [x, .ty n]) h Q ↔ Q (.p (.bool (isiT t n))) h := w_of (isiD_eq e hn)
/-- the class of data -/
def tyP : PyData → String
  | .none => "NoneType"
  | .bool _ => "bool"
  | .int _ => "int"
  | .str _ => "str"
  | .list _ => "list"
  | .tuple _ => "tuple"
  | .dict _ => "dict"
theorem tyN_p (x : PyData) : tyN h (.p x) = some (tyP x) := by cases x <;> rfl
@[simp] theorem w_isiS {x : PyData} : W (isiD [.p x, .ty "str"]) h Q ↔ Q (.p (.bool (isiT (tyP x) "str"))) h := w_isi (tyN_p x) (by decide)
@[simp] theorem w_isiI {x : PyData} : W (isiD [.p x, .ty "int"]) h Q ↔ Q (.p (.bool (isiT (tyP x) "int"))) h := w_isi (tyN_p x) (by decide)
@[simp] theorem w_isiB {x : PyData} : W (isiD [.p x, .ty "bool"]) h Q ↔ Q (.p (.bool (isiT (tyP x) "bool"))) h := w_isi (tyN_p x) (by decide)
@[simp] theorem w_isiT {x : PyData} : W (isiD [.p x, .ty "tuple"]) h Q ↔ Q (.p (.bool (isiT (tyP x) "tuple"))) h := w_isi (tyN_p x) (by decide)
@[simp] theorem w_isiL {x : PyData} : W (isiD [.p x, .ty "list"]) h Q ↔ Q (.p (.bool (isiT (tyP x) "list"))) h := w_isi (tyN_p x) (by decide)
@[simp] theorem w_isiD {x : PyData} : W (isiD [.p x, .ty "dict"]) h Q ↔ Q (.p (.bool (isiT (tyP x) "dict"))) h := w_isi (tyN_p x) (by decide)
/-- what a tuple's display makes -/
def tupD (ds : List D) : D := match plain ds with
  | some xs => .p (.tuple xs)
  | none => .mix ds
theorem tupD_p {ds : List D} {xs : List PyData} (e : plain ds = some xs) : tupD ds = .p (.tuple xs) := by unfold tupD; rw [e]
@[simp] theorem w_mkT {ds : List D} : W (mkTup ds) h Q ↔ ds.length ≤ sizeLine ∧ Q (tupD ds) h := by
  unfold mkTup tupD
  rw [w_chk]
  cases e : plain ds with
  | none => simp
  | some xs => simp
@[simp] theorem w_mkL {ds : List D} : W (mkLst ds) h Q ↔ ds.length ≤ sizeLine ∧ ∃ xs, plain ds = some xs ∧ Q (.p (.list xs)) h := by
  unfold mkLst
  rw [w_chk]
  cases e : plain ds with
  | none => simp
  | some xs => simp
@[simp] theorem leave_s {n : Nat} {d : D} {c : C} (e : (c :: h).length = n) : Wr (leave n d (c :: h)) Q ↔ Q d (c :: h) := leave_same e
@[simp] theorem atI_0 {α : Type} (a : α) (xs : List α) : L2.atI (a :: xs) 0 = some a := by
  have : (0 : Int) < ((a :: xs).length : Int) := by simp only [List.length_cons]; omega
  simp only [L2.atI, L2.ixN, if_pos this]; rfl
@[simp] theorem atI_1 {α : Type} (a b : α) (xs : List α) : L2.atI (a :: b :: xs) 1 = some b := by
  have : (1 : Int) < ((a :: b :: xs).length : Int) := by simp only [List.length_cons]; omega
  simp only [L2.atI, L2.ixN, if_pos this]; rfl
@[simp] theorem atI_2 {α : Type} (a b c : α) (xs : List α) : L2.atI (a :: b :: c :: xs) 2 = some c := by
  have : (2 : Int) < ((a :: b :: c :: xs).length : Int) := by simp only [List.length_cons]; omega
  simp only [L2.atI, L2.ixN, if_pos this]; rfl
@[simp] theorem atI_3 {α : Type} (a b c d : α) (xs : List α) : L2.atI (a :: b :: c :: d :: xs) 3 = some d := by
  have : (3 : Int) < ((a :: b :: c :: d :: xs).length : Int) := by simp only [List.length_cons]; omega
  simp only [L2.atI, L2.ixN, if_pos this]; rfl
theorem atI_mod {α : Type} (xs : List α) (i : Int) (hx : xs ≠ []) : ∃ x, x ∈ xs ∧ L2.atI xs (i % (xs.length : Int)) = some x := by
  have hl : 0 < xs.length := List.length_pos_iff.mpr hx
  have h1 : 0 ≤ i % (xs.length : Int) := Int.emod_nonneg _ (by omega)
  have h2 : i % (xs.length : Int) < xs.length := Int.emod_lt_of_pos _ (by omega)
  have h3 : (i % (xs.length : Int)).toNat < xs.length := by omega
  refine ⟨xs[(i % (xs.length : Int)).toNat], List.getElem_mem _, ?_⟩
  simp only [L2.atI, L2.ixN, if_pos h1, if_pos h2, Option.bind_some, List.getElem?_eq_getElem h3]
theorem atI_lt {α : Type} (xs : List α) (i : Int) (h1 : 0 ≤ i) (h2 : i < xs.length) : ∃ x, x ∈ xs ∧ L2.atI xs i = some x := by
  have h3 : i.toNat < xs.length := by omega
  refine ⟨xs[i.toNat], List.getElem_mem _, ?_⟩
  simp only [L2.atI, L2.ixN, if_pos h1, if_pos h2, Option.bind_some, List.getElem?_eq_getElem h3]
end
section
variable {h : Hm}
/-- what one round of a for leaves to do -/
def rnd (Q : Fl → Hm → Prop) (K : Ev → Hm → Prop) : Fl → Hm → Prop := fun o h' => match o with
  | .nx μ2 => K μ2 h'
  | .ct μ2 => K μ2 h'
  | .bk μ2 => Q (.nx μ2) h'
  | .rt v => Q (.rt v) h'
@[simp] theorem rnd_nx {Q : Fl → Hm → Prop} {K : Ev → Hm → Prop} {μ : Ev} : rnd Q K (.nx μ) h = K μ h := rfl
@[simp] theorem rnd_ct {Q : Fl → Hm → Prop} {K : Ev → Hm → Prop} {μ : Ev} : rnd Q K (.ct μ) h = K μ h := rfl
@[simp] theorem rnd_bk {Q : Fl → Hm → Prop} {K : Ev → Hm → Prop} {μ : Ev} : rnd Q K (.bk μ) h = Q (.nx μ) h := rfl
@[simp] theorem rnd_rt {Q : Fl → Hm → Prop} {K : Ev → Hm → Prop} {v : D} : rnd Q K (.rt v) h = Q (.rt v) h := rfl
theorem w_for_nil {g : D → Ev → Hm → Option Ev} {body : Ev → M Fl} {μ : Ev} {Q : Fl → Hm → Prop} : W (forL g body [] μ) h Q ↔ Q (.nx μ) h := w_ret
theorem forL_cons {g : D → Ev → Hm → Option Ev} {body : Ev → M Fl} {μ : Ev} {d : D} {ds : List D} : forL g body (d :: ds) μ h = match g d μ h with
    | none => .bad
    | some μ' => bnd (body μ') (fun o => match o with
      | .nx μ2 => forL g body ds μ2
      | .ct μ2 => forL g body ds μ2
      | .bk μ2 => ret (.nx μ2)
      | .rt v => ret (.rt v)) h := by
  first | (rw [forL]; done) | (rw [forL]; rfl)
theorem w_for_cons {g : D → Ev → Hm → Option Ev} {body : Ev → M Fl} {μ : Ev} {d : D} {ds : List D} {Q : Fl → Hm → Prop} : W (forL g body (d :: ds) μ) h Q ↔ ∃ μ', g d μ h = some μ' ∧ W (body μ') h (rnd Q fun μ2 h' => W (forL g body ds μ2) h' Q) := by
  rw [w_def, forL_cons]
  cases e : g d μ h with
  | none => simp
  | some μ' =>
    simp only [Option.some.injEq, exists_eq_left']
    show W (bnd (body μ') _) h Q ↔ _
    rw [w_bnd]
    constructor
    · intro w
      refine w.mono fun o h' q => ?_
      cases o with
      | nx μ2 => exact q
      | ct μ2 => exact q
      | bk μ2 => exact (w_ret (Q := Q)).mp q
      | rt v => exact (w_ret (Q := Q)).mp q
    · intro w
      refine w.mono fun o h' q => ?_
      cases o with
      | nx μ2 => exact q
      | ct μ2 => exact q
      | bk μ2 => exact (w_ret (Q := Q)).mpr q
      | rt v => exact (w_ret (Q := Q)).mpr q
/-- a for by its word, in the same terms -/
theorem w_forI {g : D → Ev → Hm → Option Ev} {body : Ev → M Fl} {Q : Fl → Hm → Prop} (Inv : List D → Ev → Hm → Prop) (h0 : ∀ μ h, Inv [] μ h → Q (.nx μ) h)
    (hs : ∀ d ds μ h, Inv (d :: ds) μ h → ∃ μ', g d μ h = some μ' ∧ W (body μ') h (rnd Q (Inv ds))) : ∀ ds μ h, Inv ds μ h → W (forL g body ds μ) h Q
  | [], μ, h, i => w_for_nil.mpr (h0 μ h i)
  | d :: ds, μ, h, i => by
    obtain ⟨μ', e, w⟩ := hs d ds μ h i
    refine w_for_cons.mpr ⟨μ', e, w.mono fun o h' q => ?_⟩
    cases o with
    | nx μ2 => exact w_forI Inv h0 hs ds μ2 h' q
    | ct μ2 => exact w_forI Inv h0 hs ds μ2 h' q
    | bk μ2 => exact q
    | rt v => exact q
@[simp] theorem leave_self {d : D} {Q : D → Hm → Prop} : Wr (leave h.length d h) Q ↔ Q d h := leave_same rfl
/-- what a body leaves to its def -/
def fin (lv : Nat → D → Hm → R D) (n : Nat) (Q : D → Hm → Prop) : Fl → Hm → Prop := fun o h' => match o with
  | .rt d => Wr (lv n d h') Q
  | .nx _ => Wr (lv n (.p .none) h') Q
  | _ => False
@[simp] theorem fin_rt {lv : Nat → D → Hm → R D} {n : Nat} {Q : D → Hm → Prop} {d : D} : fin lv n Q (.rt d) h = Wr (lv n d h) Q := rfl
@[simp] theorem fin_nx {lv : Nat → D → Hm → R D} {n : Nat} {Q : D → Hm → Prop} {μ : Ev} : fin lv n Q (.nx μ) h = Wr (lv n (.p .none) h) Q := rfl
theorem w_fun {lv : Nat → D → Hm → R D} {N : Nat} {body : Ev → M Fl} {ds : List D} {Q : D → Hm → Prop} : W (fnM lv N body ds) h Q ↔ W (body (ds.map some ++ List.replicate (N - ds.length) none)) h (fin lv h.length Q) := w_fn
/-- a comprehension over the images of a list, that changes nothing -/
theorem cmpL_map {α : Type} {g : D → Ev → Hm → Option Ev} {tt : Ev → M Bool} {te : Ev → M D} {μ : Ev} (k : α → D) (p : α → Bool) (f : α → D) : ∀ (xs : List α),
    (∀ x ∈ xs, ∃ μ', g (k x) μ h = some μ' ∧ tt μ' h = .ok (p x) h ∧ (p x = true → te μ' h = .ok (f x) h)) → cmpL g tt te μ (xs.map k) h = .ok ((xs.filter p).map f) h
  | [], _ => rfl
  | x :: xs, H => by
    obtain ⟨μ', e, e1, e2⟩ := H x (List.mem_cons_self ..)
    have ih := cmpL_map k p f xs fun d hd => H d (List.mem_cons_of_mem _ hd)
    rw [List.map_cons]
    unfold cmpL
    rw [e]
    show bnd (tt μ') _ h = _
    unfold bnd
    rw [e1]
    cases hp : p x with
    | false =>
      simp only [Bool.false_eq_true, if_false, ih, List.filter_cons, hp]
    | true =>
      simp only [if_true, e2 hp, ih, List.filter_cons, hp, List.map_cons]
      rfl
/-- a run told by what holds behind it -/
theorem run_of {α : Type} {f : M α} {a : α} {h' : Hm} (w : W f h fun b h2 => b = a ∧ h2 = h') : f h = .ok a h' := by
  obtain ⟨b, h2, e, rfl, rfl⟩ := w; exact e
theorem plain_mapf {α : Type} (k : α → PyData) : ∀ xs : List α, plain (xs.map fun x => .p (k x)) = some (xs.map k)
  | [] => rfl
  | x :: xs => by rw [List.map_cons, plain_cons, plain_mapf k xs]; rfl
theorem bools_map {α : Type} (k : α → Bool) : ∀ xs : List α, bools (xs.map fun x => .bool (k x)) = some (xs.map k)
  | [] => rfl
  | x :: xs => by rw [List.map_cons, bools, bools_map k xs]; rfl
@[simp] theorem inP_s (neg : Bool) (x y : Str) : inP neg (.str x) (.str y) = ret (.p (.bool (if neg then !inTxt x y else inTxt x y))) := rfl
@[simp] theorem w_reprP {x : PyData} {Q : D → Hm → Prop} : W (reprP x) h Q ↔ okShow x ∧ Q (.p (.str x.shown)) h := by unfold reprP; rw [w_chk, w_ret]
end
section
variable {h : Hm}
theorem w_cmp_nil {g : D → Ev → Hm → Option Ev} {tt : Ev → M Bool} {te : Ev → M D} {μ : Ev} {Q : List D → Hm → Prop} : W (cmpL g tt te μ []) h Q ↔ Q [] h := w_ret
theorem cmpL_cons {g : D → Ev → Hm → Option Ev} {tt : Ev → M Bool} {te : Ev → M D} {μ : Ev} {d : D} {ds : List D} : cmpL g tt te μ (d :: ds) h = match g d μ h with
    | none => .bad
    | some μ1 => bnd (tt μ1) (fun b => if b = true then bnd (te μ1) fun y => bnd (cmpL g tt te μ ds) fun ys => ret (y :: ys) else cmpL g tt te μ ds) h := by
  first | (rw [cmpL]; done) | (rw [cmpL]; rfl)
theorem w_cmp_cons {g : D → Ev → Hm → Option Ev} {tt : Ev → M Bool} {te : Ev → M D} {μ : Ev} {d : D} {ds : List D} {Q : List D → Hm → Prop} : W (cmpL g tt te μ (d :: ds)) h Q ↔ ∃ μ', g d μ h = some μ' ∧ W (tt μ') h fun b h1 => if b = true then W (te μ') h1 fun y h2 => W (cmpL g tt te μ ds) h2 fun ys => Q (y :: ys) else W (cmpL g tt te μ ds) h1 Q := by
  rw [w_def, cmpL_cons]
  cases e : g d μ h with
  | none => simp
  | some μ' =>
    simp only [Option.some.injEq, exists_eq_left']
    show W (bnd (tt μ') _) h Q ↔ _
    simp only [w_bnd, w_ite, w_ret]
theorem w_cmpE2 {fin : List D → M D} {fi : Ev → M (List D)} {vs : List Nat} {g : D → Ev → Hm → Option Ev} {tt : Ev → M Bool} {fi1 : Ev → M (List D)} {vs1 : List Nat} {g1 : D → Ev → Hm → Option Ev} {tt1 : Ev → M Bool} {te : Ev → M D} {μ : Ev} {Q : D → Hm → Prop} :
    W (cmpE2 fin fi vs g tt fi1 vs1 g1 tt1 te μ) h Q ↔ W (fi μ) h fun ds h' => W (cmpL2 g tt fi1 vs1 g1 tt1 te (wipeE μ vs) ds) h' fun ys h2 => W (fin ys) h2 Q := by
  unfold cmpE2; simp only [w_bnd, w_nox]
theorem w_cmp2_nil {g : D → Ev → Hm → Option Ev} {tt : Ev → M Bool} {fi1 : Ev → M (List D)} {vs1 : List Nat} {g1 : D → Ev → Hm → Option Ev} {tt1 : Ev → M Bool} {te : Ev → M D} {μ : Ev} {Q : List D → Hm → Prop} : W (cmpL2 g tt fi1 vs1 g1 tt1 te μ []) h Q ↔ Q [] h := w_ret
theorem cmpL2_cons {g : D → Ev → Hm → Option Ev} {tt : Ev → M Bool} {fi1 : Ev → M (List D)} {vs1 : List Nat} {g1 : D → Ev → Hm → Option Ev} {tt1 : Ev → M Bool} {te : Ev → M D} {μ : Ev} {d : D} {ds : List D} : cmpL2 g tt fi1 vs1 g1 tt1 te μ (d :: ds) h = match g d μ h with
    | none => .bad
    | some μ1 => bnd (tt μ1) (fun b => if b = true then bnd (fi1 μ1) fun es => bnd (cmpL g1 tt1 te (wipeE μ1 vs1) es) fun ys => bnd (cmpL2 g tt fi1 vs1 g1 tt1 te μ ds) fun zs => ret (ys ++ zs) else cmpL2 g tt fi1 vs1 g1 tt1 te μ ds) h := by
  first | (rw [cmpL2]; done) | (rw [cmpL2]; rfl)
theorem w_cmp2_cons {g : D → Ev → Hm → Option Ev} {tt : Ev → M Bool} {fi1 : Ev → M (List D)} {vs1 : List Nat} {g1 : D → Ev → Hm → Option Ev} {tt1 : Ev → M Bool} {te : Ev → M D} {μ : Ev} {d : D} {ds : List D} {Q : List D → Hm → Prop} : W (cmpL2 g tt fi1 vs1 g1 tt1 te μ (d :: ds)) h Q ↔
    ∃ μ', g d μ h = some μ' ∧ W (tt μ') h fun b h1 => if b = true then W (fi1 μ') h1 fun es h2 => W (cmpL g1 tt1 te (wipeE μ' vs1) es) h2 fun ys h3 => W (cmpL2 g tt fi1 vs1 g1 tt1 te μ ds) h3 fun zs => Q (ys ++ zs) else W (cmpL2 g tt fi1 vs1 g1 tt1 te μ ds) h1 Q := by
  rw [w_def, cmpL2_cons]
  cases e : g d μ h with
  | none => simp
  | some μ' =>
    simp only [Option.some.injEq, exists_eq_left']
    show W (bnd (tt μ') _) h Q ↔ _
    simp only [w_bnd, w_ite, w_ret]
/-- what may be walked -/
def isA (Q : List D → Hm → Prop) : D → Hm → Prop := fun d h => ∃ xs, seqD d = some xs ∧ Q xs h
@[simp] theorem isA_l {Q : List D → Hm → Prop} {xs : List PyData} : isA Q (.p (.list xs)) h ↔ Q (xs.map .p) h := by simp [isA, seqD]
@[simp] theorem isA_t {Q : List D → Hm → Prop} {xs : List PyData} : isA Q (.p (.tuple xs)) h ↔ Q (xs.map .p) h := by simp [isA, seqD]
@[simp] theorem isA_s {Q : List D → Hm → Prop} {x : Str} : isA Q (.p (.str x)) h ↔ Q (sgnL x) h := by simp [isA, seqD]
@[simp] theorem w_itA {f : Ev → M D} {μ : Ev} {Q : List D → Hm → Prop} : W (itA f μ) h Q ↔ W (f μ) h (isA Q) := by
  unfold itA
  rw [w_bnd]
  have : ∀ d h', W (match seqD d with
      | some xs => ret xs
      | none => bad : M (List D)) h' Q ↔ isA Q d h' := fun d h' => by
    unfold isA
    cases e : seqD d with
    | none => simp
    | some xs => simp
  exact ⟨fun w => w.mono fun d h' q => (this d h').mp q, fun w => w.mono fun d h' q => (this d h').mpr q⟩
@[simp] theorem w_rd1c {α : Type} {g : PyData → M α} {n : Nat} {Q : α → Hm → Prop} : W (rd1 g (.cell n)) h Q ↔ ∃ p, lookD h (.cell n) = some p ∧ W (g p) h Q := by
  rw [w_def]
  unfold rd1
  cases e : lookD h (.cell n) with
  | none => simp
  | some p => simp [w_def]
@[simp] theorem w_onec {g : PyData → M D} {n : Nat} {Q : D → Hm → Prop} : W (one g [.cell n]) h Q ↔ W (rd1 g (.cell n)) h Q := Iff.rfl
theorem lookD_cell {n : Nat} {xs : List D} {ys : List PyData} (e : h[n]? = some (.lst xs)) (p : plain xs = some ys) : lookD h (.cell n) = some (.list ys) := by
  simp only [lookD, e, p, Option.map_some]
@[simp] theorem stepD_t (xs : List PyData) (i : Int) : stepD (.p (.tuple xs)) (.p (.int i)) = chk (i = 1 ∨ i = -1) (ret (.p (.tuple (if i = 1 then xs else xs.reverse)))) := rfl
@[simp] theorem inKD_s (neg : Bool) (x : String) (kvs : List (Str × D)) (z : Str) : inKD neg x kvs (.p (.str z)) (.glob x) = ret (.p (.bool (if neg then (kvs.lookup z).isNone else (kvs.lookup z).isSome))) := by
  funext h
  show chk ((x : Str) = x) _ h = _
  unfold chk
  rw [if_pos rfl]
theorem recM_succ {lv : Nat → D → Hm → R D} {N : Nat} {B : (List D → M D) → Ev → M Fl} {n : Nat} : recM lv N B (n + 1) = fnM lv N (B (recM lv N B n)) := rfl
theorem w_inT {neg : Bool} {x : PyData} {ys : List PyData} {Q : D → Hm → Prop} : W (inP neg x (.tuple ys)) h Q ↔ (PySem.SeqAt.shaped x = true ∧ PySem.SeqAt.shaped (.tuple ys) = true) ∧ Q (.p (.bool (if neg then !(ys.any fun z => PyData.eqv z x) else ys.any fun z => PyData.eqv z x))) h := by
  have : inP neg x (.tuple ys) = chk (PySem.SeqAt.shaped x = true ∧ PySem.SeqAt.shaped (.tuple ys) = true) (ret (.p (.bool (if neg then !(ys.any fun z => PyData.eqv z x) else ys.any fun z => PyData.eqv z x)))) := by cases x <;> rfl
  rw [this, w_chk, w_ret]
theorem w_inL {neg : Bool} {x : PyData} {ys : List PyData} {Q : D → Hm → Prop} : W (inP neg x (.list ys)) h Q ↔ (PySem.SeqAt.shaped x = true ∧ PySem.SeqAt.shaped (.list ys) = true) ∧ Q (.p (.bool (if neg then !(ys.any fun z => PyData.eqv z x) else ys.any fun z => PyData.eqv z x))) h := by
  have : inP neg x (.list ys) = chk (PySem.SeqAt.shaped x = true ∧ PySem.SeqAt.shaped (.list ys) = true) (ret (.p (.bool (if neg then !(ys.any fun z => PyData.eqv z x) else ys.any fun z => PyData.eqv z x)))) := by cases x <;> rfl
  rw [this, w_chk, w_ret]
end
end MP
/-! MW2: more of what a mini run comes to: dict displays, gets, held defs, str. -/
namespace MP
open PySem (PyData Str sizeLine)
open L2 (Key)
section
variable {h : Hm} {μ : Ev} {Q : D → Hm → Prop}
@[simp] theorem w_dispE {fs : List ((Ev → M D) × (Ev → M D))} : W (dispE fs μ) h Q ↔ W (prsE fs μ) h fun ps h1 => W (newDct ps) h1 Q := by
  unfold dispE; simp only [w_bnd, w_nox]
@[simp] theorem w_prs_nil {Q : List (D × D) → Hm → Prop} : W (prsE [] μ) h Q ↔ Q [] h := w_ret
@[simp] theorem w_prs_cons {k v : Ev → M D} {r : List ((Ev → M D) × (Ev → M D))} {Q : List (D × D) → Hm → Prop} : W (prsE ((k, v) :: r) μ) h Q ↔ W (k μ) h fun x h1 => W (v μ) h1 fun y h2 => W (prsE r μ) h2 fun ps h3 => Q ((x, y) :: ps) h3 := by
  have e : prsE ((k, v) :: r) μ = bnd (k μ) fun x => bnd (v μ) fun y => bnd (prsE r μ) fun ps => ret ((x, y) :: ps) := by
    first | (rw [prsE]; done) | (rw [prsE]; rfl)
  rw [e]
  simp only [w_bnd, w_ret]
theorem w_newDct {ps : List (D × D)} {q : List (Key × D)} (e : dKeys ps = some q) : W (newDct ps) h Q ↔ ((q.map (·.1)).Nodup ∧ q.length ≤ 15) ∧ Q (.cell h.length) (h ++ [.dct false (q.map fun p => (keyP p.1, p.2))]) := by
  unfold newDct
  rw [e]
  simp only [w_chk]
  rw [w_def, wr_ok]
theorem w_newDct' {ps : List (D × D)} {q : List (Key × D)} (e : dKeys ps = some q) (c : (q.map (·.1)).Nodup ∧ q.length ≤ 15) : W (newDct ps) h Q ↔ Q (.cell h.length) (h ++ [.dct false (q.map fun p => (keyP p.1, p.2))]) := by
  rw [w_newDct e]; exact ⟨fun z => z.2, fun z => ⟨c, z⟩⟩
@[simp] theorem w_getE {fo fk : Ev → M D} : W (getE fo fk μ) h Q ↔ W (fo μ) h fun x h1 => isTyD "dict" h1 x = true ∧ W (fk μ) h1 fun y h2 => W (getD_ x y (.p .none)) h2 Q := by
  unfold getE; simp only [w_bnd, w_tyOk]
@[simp] theorem w_getE2 {fo fk fd : Ev → M D} : W (getE2 fo fk fd μ) h Q ↔ W (fo μ) h fun x h1 => isTyD "dict" h1 x = true ∧ W (fk μ) h1 fun y h2 => W (fd μ) h2 fun z h3 => W (getD_ x y z) h3 Q := by
  unfold getE2; simp only [w_bnd, w_tyOk]
@[simp] theorem w_getD {x : D} {q : PyData} {z : D} : W (getD_ x (.p q) z) h Q ↔ ∃ o, dlook h x q = some o ∧ Q (o.getD z) h := by
  rw [w_def]
  show Wr (match dlook h x q with
    | some o => .ok (o.getD z) h
    | none => .bad) Q ↔ _
  cases e : dlook h x q <;> simp
theorem dlook_cell {n : Nat} {t : Bool} {kvs : List (PyData × D)} {q : PyData} (e : h[n]? = some (.dct t kvs)) : dlook h (.cell n) q = lookR t kvs q := by simp [dlook, e]
@[simp] theorem w_callV {i : Nat} {t : List (Str × Nat × (List D → M D))} {fa : Ev → M (List D)} : W (callV i t fa μ) h Q ↔ W (var i μ) h fun f h1 => ∃ nF, holdD t f = some nF ∧ W (fa μ) h1 fun xs h2 => xs.length = nF.1 ∧ W (nF.2 xs) h2 Q := by
  unfold callV
  rw [w_bnd]
  have : ∀ f h1, W (match holdD t f with
      | some (n, F) => bnd (fa μ) fun xs => chk (xs.length = n) ((nox ∘ F) xs)
      | none => bad) h1 Q ↔ ∃ nF, holdD t f = some nF ∧ W (fa μ) h1 fun xs h2 => xs.length = nF.1 ∧ W (nF.2 xs) h2 Q := fun f h1 => by
    cases e : holdD t f with
    | none => simp
    | some nF =>
      obtain ⟨n, F⟩ := nF
      simp only [w_bnd, w_chk, w_noxc, Option.some.injEq, exists_eq_left']
  exact ⟨fun w => w.mono fun d h' q => (this d h').mp q, fun w => w.mono fun d h' q => (this d h').mpr q⟩
@[simp] theorem strOf_s (z : Str) : strOf (.str z) = ret (.p (.str z)) := rfl
@[simp] theorem strOf_i (i : Int) : strOf (.int i) = chk (i.natAbs.log2 < 1920) (ret (.p (.str (toString i)))) := rfl
@[simp] theorem w_strT {xs : List PyData} : W (strOf (.tuple xs)) h Q ↔ okShow (.tuple xs) ∧ Q (.p (.str (PyData.shown (.tuple xs)))) h := by unfold strOf; rw [w_chk, w_ret]
@[simp] theorem w_strL {xs : List PyData} : W (strOf (.list xs)) h Q ↔ okShow (.list xs) ∧ Q (.p (.str (PyData.shown (.list xs)))) h := by unfold strOf; rw [w_chk, w_ret]
/-- the cells above the entry are left behind -/
theorem leave_drop {n : Nat} {d : D} {h h2 : Hm} (e : h2.take n = h) (hl : low n h = true) (hf : frz n h2 d = some d) (hn : h.length = n) {Q : D → Hm → Prop} (q : Q d h) : Wr (leave n d h2) Q := by
  unfold leave
  split
  · rename_i z
    have : h2 = h := by rw [← e, ← z, List.take_length]
    rw [this]; exact wr_ok.mpr q
  · rw [e, if_pos hl, hf]
    exact wr_ok.mpr q
theorem frz_bool (n : Nat) (h : Hm) (b : Bool) : frz n h (.p (.bool b)) = some (.p (.bool b)) := rfl
@[simp] theorem isBD_b (neg a b : Bool) : isBD neg (.p (.bool a)) (.p (.bool b)) = ret (.p (.bool (if neg then !decide (a = b) else decide (a = b)))) := rfl
end
end MP
/-! MW3: what the runs of MP11 .. MP13 come to. -/
namespace MP
open PySem (PyData Str sizeLine)
open L2 (Key)
section
variable {h : Hm} {μ : Ev} {Q : D → Hm → Prop}
open Classical in
@[simp] theorem w_sortedP {xs : List PyData} : W (sortedP (.list xs)) h Q ↔ SortOk xs ∧ Q (.p (.list (sortL xs))) h := by
  unfold sortedP; rw [w_chk, w_ret]
theorem sortL_perm (xs : List PyData) : (sortL xs).Perm xs := List.mergeSort_perm _ _
theorem sortL_length (xs : List PyData) : (sortL xs).length = xs.length := (sortL_perm xs).length_eq
theorem sortL_mem {xs : List PyData} {x : PyData} : x ∈ sortL xs ↔ x ∈ xs := (sortL_perm xs).mem_iff
@[simp] theorem maxD_2 (i j : Int) : maxD [.p (.int i), .p (.int j)] = ret (.p (.int (mxI i j))) := rfl
@[simp] theorem maxD_3 (i j l : Int) : maxD [.p (.int i), .p (.int j), .p (.int l)] = ret (.p (.int (mxI (mxI i j) l))) := rfl
@[simp] theorem minD_2 (i j : Int) : minD [.p (.int i), .p (.int j)] = ret (.p (.int (mnI i j))) := rfl
@[simp] theorem minD_3 (i j l : Int) : minD [.p (.int i), .p (.int j), .p (.int l)] = ret (.p (.int (mnI (mnI i j) l))) := rfl
theorem mx_le {i j b : Int} : mxI i j ≤ b ↔ i ≤ b ∧ j ≤ b := by unfold mxI; split <;> omega
theorem le_mx {i j b : Int} : b ≤ mxI i j ↔ b ≤ i ∨ b ≤ j := by unfold mxI; split <;> omega
theorem mn_le {i j b : Int} : mnI i j ≤ b ↔ i ≤ b ∨ j ≤ b := by unfold mnI; split <;> omega
theorem le_mn {i j b : Int} : b ≤ mnI i j ↔ b ≤ i ∧ b ≤ j := by unfold mnI; split <;> omega
@[simp] theorem w_ordG {g : PyData → PyData → Bool} {x y : PyData} : W (ordG g x y) h Q ↔ (PySem.W.alike x y = true ∧ notNone x = true ∧ x.depth ≤ 60) ∧ Q (.p (.bool (g x y))) h := by unfold ordG; rw [w_chk, w_ret]
theorem w_onList {n : Nat} {k : List D → R (D × List D)} : W (onList (.cell n) k) h Q ↔ ∃ xs d ys h', h[n]? = some (.lst xs) ∧ k xs = .ok (d, ys) h' ∧ Q d (h.set n (.lst ys)) := by
  rw [w_def]
  show Wr (match h[n]? with
    | some (.lst xs) => (match k xs with
      | .ok (d, ys) _ => .ok d (h.set n (.lst ys))
      | _ => .bad)
    | _ => .bad) Q ↔ _
  cases e : h[n]? with
  | none => simp
  | some c =>
    cases c with
    | dct t kvs => simp
    | obj cls fs => simp
    | lst xs =>
      cases ek : k xs with
      | ok p h' =>
        obtain ⟨d, ys⟩ := p
        simp [ek]
        exact ⟨fun q => ⟨_, _, ⟨rfl, rfl⟩, q⟩, fun ⟨_, _, ⟨a, b⟩, q⟩ => by subst a b; exact q⟩
      | exc _ _ => simp [ek]
      | bad => simp [ek]
@[simp] theorem w_listOfC {xs : List PyData} : W (listOfC (.list xs)) h Q ↔ Q (.cell h.length) (h ++ [.lst (xs.map .p)]) := by rw [w_def]; exact wr_ok
@[simp] theorem w_revc {n : Nat} : W (reverseD (.cell n) []) h Q ↔ ∃ xs, h[n]? = some (.lst xs) ∧ Q (.p .none) (h.set n (.lst xs.reverse)) := by
  show W (onList (.cell n) fun xs => .ok (.p .none, xs.reverse) []) h Q ↔ _
  rw [w_onList]
  constructor
  · rintro ⟨xs, d, ys, h', e, ek, q⟩
    cases ek
    exact ⟨xs, e, q⟩
  · rintro ⟨xs, e, q⟩
    exact ⟨xs, _, _, _, e, rfl, q⟩
theorem w_popc {n : Nat} {i : Int} {xs : List D} {k : Nat} {y : D} (e : h[n]? = some (.lst xs)) (hi : -(2 ^ 63) ≤ i ∧ i < 2 ^ 63) (ek : PySem.seqIndex? i xs.length = some k) (ey : xs[k]? = some y) : W (popD (.cell n) [.p (.int i)]) h Q ↔ Q y (h.set n (.lst (xs.eraseIdx k))) := by
  show W (onList (.cell n) (popK i)) h Q ↔ _
  have ep : popK i xs = .ok (y, xs.eraseIdx k) [] := by
    unfold popK
    rw [if_pos hi, ek]
    simp only [ey]
  rw [w_onList]
  constructor
  · rintro ⟨xs', d, ys, h', e', ek', q⟩
    rw [e] at e'
    cases e'
    rw [ep] at ek'
    cases ek'
    exact q
  · intro q
    exact ⟨xs, _, _, _, e, ep, q⟩
@[simp] theorem w_newK : W (newK μ) h Q ↔ Q (.cell h.length) (h ++ [.dct false []]) := by rw [w_def]; exact wr_ok
@[simp] theorem w_newT : W (newT μ) h Q ↔ Q (.cell h.length) (h ++ [.dct true []]) := by rw [w_def]; exact wr_ok
theorem w_dget {x : D} {q : PyData} {d : D} (e : dlook h x q = some (some d)) : W (dgetD x (.p q)) h Q ↔ Q d h := by
  rw [w_def]
  show Wr (match dlook h x q with
    | some (some d) => .ok d h
    | _ => .bad) Q ↔ _
  rw [e]
  exact wr_ok
theorem w_din {neg : Bool} {x : D} {q : PyData} {o : Option D} (e : dlook h x q = some o) : W (dinD neg (.p q) x) h Q ↔ Q (.p (.bool (if neg then !o.isSome else o.isSome))) h := by
  rw [w_def]
  show Wr (match dlook h x q with
    | some o => .ok (.p (.bool (if neg then !o.isSome else o.isSome))) h
    | none => .bad) Q ↔ _
  rw [e]
  exact wr_ok
@[simp] theorem w_dgetE {x : D} {q : PyData} : W (dgetD x (.p q)) h Q ↔ ∃ d, dlook h x q = some (some d) ∧ Q d h := by
  rw [w_def]
  show Wr (match dlook h x q with
    | some (some d) => .ok d h
    | _ => .bad) Q ↔ _
  cases e : dlook h x q with
  | none => simp
  | some o => cases o <;> simp
@[simp] theorem w_dinE {neg : Bool} {x : D} {q : PyData} : W (dinD neg (.p q) x) h Q ↔ ∃ o, dlook h x q = some o ∧ Q (.p (.bool (if neg then !o.isSome else o.isSome))) h := by
  rw [w_def]
  show Wr (match dlook h x q with
    | some o => .ok (.p (.bool (if neg then !o.isSome else o.isSome))) h
    | none => .bad) Q ↔ _
  cases e : dlook h x q <;> simp
theorem w_dputK {n : Nat} {q : PyData} {d : D} {k : Key} {kvs : List (PyData × D)} (e : h[n]? = some (.dct false kvs)) (ek : toKey q = some k) (hz : kvs.length < sizeLine) : W (dputD (.cell n) (.p q) d) h Q ↔ Q (.p .none) (h.set n (.dct false (dputL toKey kvs k q d))) := by
  rw [w_def]
  unfold dputD
  simp only [e, ek, if_pos hz]
  exact wr_ok
theorem w_dputT {n : Nat} {q : PyData} {d : D} {k : PySem.NestedKey} {kvs : List (PyData × D)} (e : h[n]? = some (.dct true kvs)) (ek : tk q = some k) (hz : kvs.length < sizeLine) : W (dputD (.cell n) (.p q) d) h Q ↔ Q (.p .none) (h.set n (.dct true (dputL nkD kvs k q d))) := by
  rw [w_def]
  unfold dputD
  simp only [e, ek, if_pos hz]
  exact wr_ok
@[simp] theorem w_sDput {fe fo fi : Ev → M D} {Q : Fl → Hm → Prop} : W (sDput fe fo fi μ) h Q ↔ W (fe μ) h fun d h1 => W (fo μ) h1 fun x h2 => W (fi μ) h2 fun i h3 => W (dputD x i d) h3 fun _ h4 => Q (.nx μ) h4 := by
  unfold sDput; simp only [w_bnd, w_ret]
end
end MP
/-! MW4: what the runs of MP14 .. MP16 come to. -/
namespace MP
open PySem (PyData Str sizeLine)
section
variable {h : Hm} {μ : Ev} {Q : D → Hm → Prop}
/-- two things walked together -/
def isZ (Q : List D → Hm → Prop) : List D → Hm → Prop := fun ds h => ∃ x y zs, ds = [x, y] ∧ zipL x y = some zs ∧ Q zs h
@[simp] theorem isZ_2 {Q : List D → Hm → Prop} {x y : D} : isZ Q [x, y] h ↔ ∃ zs, zipL x y = some zs ∧ Q zs h := by
  unfold isZ
  constructor
  · rintro ⟨a, b, zs, e, e2, q⟩
    simp only [List.cons.injEq, and_true] at e
    obtain ⟨rfl, rfl⟩ := e
    exact ⟨zs, e2, q⟩
  · rintro ⟨zs, e, q⟩
    exact ⟨x, y, zs, rfl, e, q⟩
@[simp] theorem w_itZip {f : Ev → M (List D)} {Q : List D → Hm → Prop} : W (itZip f μ) h Q ↔ W (f μ) h (isZ Q) := by
  unfold itZip
  rw [w_bnd]
  have : ∀ ds h', W (match ds with
      | [x, y] => (match zipL x y with
        | some zs => ret zs
        | none => bad)
      | _ => bad : M (List D)) h' Q ↔ isZ Q ds h' := fun ds h' => by
    split
    · rename_i x y
      rw [isZ_2]
      cases e : zipL x y with
      | none => simp
      | some zs => simp
    · rename_i hn
      rw [w_bad]
      refine ⟨False.elim, fun ⟨x, y, zs, e, _⟩ => hn x y e⟩
  exact ⟨fun w => w.mono fun d h' q => (this d h').mp q, fun w => w.mono fun d h' q => (this d h').mpr q⟩
@[simp] theorem zipL_ll (xs ys : List PyData) : zipL (.p (.list xs)) (.p (.list ys)) = some (List.zipWith pairD (xs.map .p) (ys.map .p)) := rfl
@[simp] theorem zipL_tl (xs ys : List PyData) : zipL (.p (.tuple xs)) (.p (.list ys)) = some (List.zipWith pairD (xs.map .p) (ys.map .p)) := rfl
@[simp] theorem zipL_ml (xs : List D) (ys : List PyData) : zipL (.mix xs) (.p (.list ys)) = some (List.zipWith pairD xs (ys.map .p)) := rfl
/-- one list of data -/
def isE (Q : List D → Hm → Prop) : List D → Hm → Prop := fun ds h => ∃ xs, ds = [.p (.list xs)] ∧ Q (enuL xs) h
@[simp] theorem isE_1 {Q : List D → Hm → Prop} {xs : List PyData} : isE Q [.p (.list xs)] h ↔ Q (enuL xs) h := by
  unfold isE
  constructor
  · rintro ⟨ys, e, q⟩
    simp only [List.cons.injEq, D.p.injEq, PyData.list.injEq, and_true] at e
    subst e
    exact q
  · exact fun q => ⟨xs, rfl, q⟩
@[simp] theorem w_itEnum {f : Ev → M (List D)} {Q : List D → Hm → Prop} : W (itEnum f μ) h Q ↔ W (f μ) h (isE Q) := by
  unfold itEnum
  rw [w_bnd]
  have : ∀ ds h', W (match ds with
      | [.p (.list xs)] => ret (enuL xs)
      | _ => bad : M (List D)) h' Q ↔ isE Q ds h' := fun ds h' => by
    split
    · rw [isE_1, w_ret]
    · rename_i hn
      rw [w_bad]
      refine ⟨False.elim, fun ⟨xs, e, _⟩ => hn xs e⟩
  exact ⟨fun w => w.mono fun d h' q => (this d h').mp q, fun w => w.mono fun d h' q => (this d h').mpr q⟩
@[simp] theorem gtKD_s (kvs : List (Str × D)) (z : Str) : gtKD kvs (.p (.str z)) = ret ((kvs.lookup z).getD (.p .none)) := rfl
theorem itKD_s (x : String) (kvs : List (Str × D)) (z : Str) {d : D} (e : kvs.lookup z = some d) : itKD x kvs (.glob x) (.p (.str z)) = ret d := by
  funext h
  show chk ((x : Str) = x) _ h = _
  unfold chk
  rw [if_pos rfl, e]
@[simp] theorem w_sumP {xs : List PyData} : W (sumP (.list xs)) h Q ↔ ∃ ns, intsL xs = some ns ∧ Q (.p (.int ns.sum)) h := by
  have e1 : sumP (.list xs) = (match intsL xs with
    | some ns => ret (.p (.int ns.sum))
    | none => bad : M D) := rfl
  rw [e1]
  cases intsL xs <;> simp
theorem intsL_map {α : Type} (k : α → Int) : ∀ xs : List α, intsL (xs.map fun x => .int (k x)) = some (xs.map k)
  | [] => rfl
  | x :: xs => by rw [List.map_cons, intsL, intsL_map k xs]; rfl
@[simp] theorem eqT_e (xs : List PyData) : eqT (.tuple xs) (.tuple []) = ret (.p (.bool xs.isEmpty)) := rfl
/-- two values -/
def is2 (Q : D → D → Hm → Prop) : List D → Hm → Prop := fun ds h => ∃ d e, ds = [d, e] ∧ Q d e h
@[simp] theorem is2_2 {Q : D → D → Hm → Prop} {d e : D} : is2 Q [d, e] h ↔ Q d e h := by
  unfold is2
  constructor
  · rintro ⟨a, b, e1, q⟩
    simp only [List.cons.injEq, and_true] at e1
    obtain ⟨rfl, rfl⟩ := e1
    exact q
  · exact fun q => ⟨d, e, rfl, q⟩
@[simp] theorem w_sPar {i j : Nat} {fa : Ev → M (List D)} {Q : Fl → Hm → Prop} : W (sPar i j fa μ) h Q ↔ W (fa μ) h (is2 fun d e h' => Q (.nx ((μ.set i (some d)).set j (some e))) h') := by
  unfold sPar
  rw [w_bnd]
  have : ∀ ds h', W (match ds with
      | [d, e] => ret (.nx ((μ.set i (some d)).set j (some e)))
      | _ => bad : M Fl) h' Q ↔ is2 (fun d e h' => Q (.nx ((μ.set i (some d)).set j (some e))) h') ds h' := fun ds h' => by
    split
    · rw [is2_2, w_ret]
    · rename_i hn
      rw [w_bad]
      exact ⟨False.elim, fun ⟨d, e, ee, _⟩ => hn d e ee⟩
  exact ⟨fun w => w.mono fun d h' q => (this d h').mp q, fun w => w.mono fun d h' q => (this d h').mpr q⟩
@[simp] theorem revP_l (xs : List PyData) : revP (.p (.list xs)) = ret (.p (.list xs.reverse)) := rfl
@[simp] theorem upperP_s (z : Str) : upperP (.p (.str z)) [] = chk (z.length ≤ 5592405) (ret (.p (.str (PySem.Txt.upper z)))) := rfl
@[simp] theorem w_addC {xs ys : List PyData} : W (addC (.list xs) (.list ys)) h Q ↔ xs.length + ys.length ≤ sizeLine ∧ Q (.cell h.length) (h ++ [.lst ((xs ++ ys).map .p)]) := by
  show W (chk (xs.length + ys.length ≤ sizeLine) fun h => .ok (.cell h.length) (h ++ [.lst ((xs ++ ys).map .p)])) h Q ↔ _
  rw [w_chk, w_def, wr_ok]
end
end MP
namespace MP
open PySem (PyData Str sizeLine)
@[simp] theorem w_reprP2 {x : PyData} {h : Hm} {Q : D → Hm → Prop} : W (reprP2 x) h Q ↔ okShow2 x ∧ Q (.p (.str x.shown)) h := by unfold reprP2; rw [w_chk, w_ret]
end MP
/-! MW7: what the runs of MP20 .. MP24 come to. -/
namespace MP
open PySem (PyData Str sizeLine)
section
variable {h : Hm} {μ : Ev} {Q : D → Hm → Prop}
/-- a tuple counted up from k -/
def enuT : Nat → List PyData → List D
  | _, [] => []
  | k, x :: xs => .p (.tuple [.int (k : Nat), x]) :: enuT (k + 1) xs
theorem enuT_zip : ∀ (xs : List PyData) (k : Nat), (((xs.map D.p).zipIdx k).map fun p => pairD (.p (.int (p.2 : Nat))) p.1) = enuT k xs
  | [], _ => rfl
  | x :: xs, k => by
    rw [List.map_cons, List.zipIdx_cons, List.map_cons, enuT_zip xs (k + 1)]
    rfl
/-- one tuple of data, counted -/
def isET (Q : List D → Hm → Prop) : List D → Hm → Prop := fun ds h => ∃ xs, ds = [.p (.tuple xs)] ∧ Q (enuT 0 xs) h
@[simp] theorem isET_1 {Q : List D → Hm → Prop} {xs : List PyData} : isET Q [.p (.tuple xs)] h ↔ Q (enuT 0 xs) h := by
  unfold isET
  constructor
  · rintro ⟨ys, e, q⟩
    simp only [List.cons.injEq, D.p.injEq, PyData.tuple.injEq, and_true] at e
    subst e
    exact q
  · exact fun q => ⟨xs, rfl, q⟩
theorem w_itEnumT {f : Ev → M (List D)} {Q : List D → Hm → Prop} (w : W (f μ) h (isET Q)) : W (itEnumT f μ) h Q := by
  unfold itEnumT
  rw [w_bnd]
  refine w.mono ?_
  rintro ds h' ⟨xs, rfl, q⟩
  show W (match itemsT (.p (.tuple xs)) with
    | some xs => ret (xs.zipIdx.map fun p => pairD (.p (.int (p.2 : Nat))) p.1)
    | none => bad) h' Q
  simp only [itemsT, w_ret]
  rw [enuT_zip]
  exact q
open Classical in
theorem w_sortKD {x : D} {kvs : List (PyData × PyData)} (e : dctP h x = some kvs) (ok : SortOk (kvs.map (·.1))) : W (sortKD [x]) h Q ↔ Q (.p (.list (sortL (kvs.map (·.1))))) h := by
  rw [w_def]
  show Wr (match dctP h x with
    | some kvs => chk (SortOk (kvs.map (·.1))) (ret (.p (.list (sortL (kvs.map (·.1)))))) h
    | none => .bad) Q ↔ _
  rw [e]
  show W (chk (SortOk (kvs.map (·.1))) (ret (.p (.list (sortL (kvs.map (·.1))))))) h Q ↔ _
  rw [w_chk, w_ret]
  exact ⟨fun q => q.2, fun q => ⟨ok, q⟩⟩
open Classical in
theorem w_sortItD {x : D} {kvs : List (PyData × PyData)} (e : dctP h x = some kvs) (t : isTyD "dict" h x = true) (ok : SortOk (kvs.map pairP)) : W (sortItD x) h Q ↔ Q (.p (.list (sortL (kvs.map pairP)))) h := by
  rw [w_def]
  show Wr (match dctP h x with
    | some kvs => if isTyD "dict" h x = true then chk (SortOk (kvs.map pairP)) (ret (.p (.list (sortL (kvs.map pairP))))) h else .bad
    | none => .bad) Q ↔ _
  rw [e]
  simp only [if_pos t]
  show W (chk (SortOk (kvs.map pairP)) (ret (.p (.list (sortL (kvs.map pairP)))))) h Q ↔ _
  rw [w_chk, w_ret]
  exact ⟨fun q => q.2, fun q => ⟨ok, q⟩⟩
theorem dctP_cell {n : Nat} {kvs : List (PyData × D)} {vs : List PyData} (e : h[n]? = some (.dct true kvs)) (ep : plain (kvs.map (·.2)) = some vs) : dctP h (.cell n) = some ((kvs.map (·.1)).zip vs) := by
  simp [dctP, e, ep]
@[simp] theorem w_newDN {kvs : List (PyData × D)} : W (newDN kvs) h Q ↔ Q (.cell h.length) (h ++ [.dct true kvs]) := by rw [w_def]; exact wr_ok
end
end MP
namespace G
open PySem PySem.Spec PyProof.Rows L2 MP
noncomputable section
def topS (i : Nat) : Stmt := PySem.Challenge.pw_sheethouse_k14_undone_deeds_told.main.body.getD i (.Pass ⟨0, 0, 0, 0⟩)
abbrev s_stamps_of : Stmt := topS 1
abbrev NN_stamps_of : List Str := ["log", "stamp", "what"]
theorem sc_stamps_of : FnScope ["log", "stamp", "what"] ["log"] (defScope s_stamps_of) := ⟨rfl, rfl, rfl, by decide +kernel, rfl, by decide +kernel, by decide +kernel⟩
abbrev s_may_undo : Stmt := topS 3
abbrev NN_may_undo : List Str := ["there", "stamp", "what", "word", "aim", "rest"]
theorem sc_may_undo : FnScope ["there", "stamp", "what", "word", "aim", "rest"] ["there", "stamp", "what"] (defScope s_may_undo) := ⟨rfl, rfl, rfl, by decide +kernel, rfl, by decide +kernel, by decide +kernel⟩
abbrev s_undone : Stmt := topS 4
abbrev NN_undone : List Str := ["log", "there", "found", "stamp", "what"]
theorem sc_undone : FnScope ["log", "there", "found", "stamp", "what"] ["log"] (defScope s_undone) := ⟨rfl, rfl, rfl, by decide +kernel, rfl, by decide +kernel, by decide +kernel⟩
abbrev s_law_pen : Stmt := topS 6
abbrev NN_law_pen : List Str := ["_law_script", "_law_cell"]
theorem sc_law_pen : FnScope ["_law_script", "_law_cell"] ["_law_script"] (defScope s_law_pen) := ⟨rfl, rfl, rfl, by decide +kernel, rfl, by decide +kernel, by decide +kernel⟩
abbrev s_law_take : Stmt := topS 7
abbrev NN_law_take : List Str := ["_law_pen_here", "_law_upto", "_law_at", "_law_cell", "_law_number", "_law_found", "_law_great"]
theorem sc_law_take : FnScope ["_law_pen_here", "_law_upto", "_law_at", "_law_cell", "_law_number", "_law_found", "_law_great"] ["_law_pen_here", "_law_upto"] (defScope s_law_take) := ⟨rfl, rfl, rfl, by decide +kernel, rfl, by decide +kernel, by decide +kernel⟩
abbrev s_law_words : Stmt := topS 8
abbrev NN_law_words : List Str := ["_law_pen_here", "_law_many", "_law_abc", "_law_base", "_law_spot", "_law_first", "_law_leap", "_law_tail", "_law_found", "_law_k", "_law_sign"]
theorem sc_law_words : FnScope ["_law_pen_here", "_law_many", "_law_abc", "_law_base", "_law_spot", "_law_first", "_law_leap", "_law_tail", "_law_found", "_law_k", "_law_sign"] ["_law_pen_here", "_law_many"] (defScope s_law_words) := ⟨rfl, rfl, rfl, by decide +kernel, rfl, by decide +kernel, by decide +kernel⟩
abbrev s_law_stamps : Stmt := topS 9
abbrev NN_law_stamps : List Str := ["_law_pen_here", "_law_hands", "_law_many", "_law_clock", "_law_last", "_law_found", "_law_k", "_law_hand", "_law_time", "_law_number", "_law_stamp"]
theorem sc_law_stamps : FnScope ["_law_pen_here", "_law_hands", "_law_many", "_law_clock", "_law_last", "_law_found", "_law_k", "_law_hand", "_law_time", "_law_number", "_law_stamp"] ["_law_pen_here", "_law_hands", "_law_many"] (defScope s_law_stamps) := ⟨rfl, rfl, rfl, by decide +kernel, rfl, by decide +kernel, by decide +kernel⟩
abbrev s_law_simple : Stmt := topS 10
abbrev NN_law_simple : List Str := ["_law_pen_here", "_law_stamps_here", "_law_word", "_law_one", "_law_other", "_law_column", "_law_number", "_law_content", "_law_some"]
theorem sc_law_simple : FnScope ["_law_pen_here", "_law_stamps_here", "_law_word", "_law_one", "_law_other", "_law_column", "_law_number", "_law_content", "_law_some"] ["_law_pen_here", "_law_stamps_here", "_law_word"] (defScope s_law_simple) := ⟨rfl, rfl, rfl, by decide +kernel, rfl, by decide +kernel, by decide +kernel⟩
abbrev s_law_drawn : Stmt := topS 11
abbrev NN_law_drawn : List Str := ["_law_pen_here", "_law_many", "_law_hands", "_law_stamps_here", "_law_far", "_law_stamp"]
theorem sc_law_drawn : FnScope ["_law_pen_here", "_law_many", "_law_hands", "_law_stamps_here", "_law_far", "_law_stamp"] ["_law_pen_here", "_law_many"] (defScope s_law_drawn) := ⟨rfl, rfl, rfl, by decide +kernel, rfl, by decide +kernel, by decide +kernel⟩
abbrev s_law_undos : Stmt := topS 12
abbrev NN_law_undos : List Str := ["_law_pen_here", "_law_many", "_law_hands", "_law_stamps_here", "_law_found", "_law_k", "_law_stamp", "_law_own", "_law_far", "_law_aims", "_law_what", "_law_aim", "_law_one"]
theorem sc_law_undos : FnScope ["_law_pen_here", "_law_many", "_law_hands", "_law_stamps_here", "_law_found", "_law_k", "_law_stamp", "_law_own", "_law_far", "_law_aims", "_law_what", "_law_aim", "_law_one"] ["_law_pen_here", "_law_many"] (defScope s_law_undos) := ⟨rfl, rfl, rfl, by decide +kernel, rfl, by decide +kernel, by decide +kernel⟩
abbrev s_law_namers : Stmt := topS 13
abbrev NN_law_namers : List Str := ["_law_log", "_law_stamp", "_law_known", "_law_found", "_law_other", "_law_what"]
theorem sc_law_namers : FnScope ["_law_log", "_law_stamp", "_law_known", "_law_found", "_law_other", "_law_what"] ["_law_log", "_law_stamp", "_law_known"] (defScope s_law_namers) := ⟨rfl, rfl, rfl, by decide +kernel, rfl, by decide +kernel, by decide +kernel⟩
abbrev s_law_due : Stmt := topS 14
abbrev NN_law_due : List Str := ["_law_log", "_law_known", "_law_found", "_law_stamp", "_law_what"]
theorem sc_law_due : FnScope ["_law_log", "_law_known", "_law_found", "_law_stamp", "_law_what"] ["_law_log"] (defScope s_law_due) := ⟨rfl, rfl, rfl, by decide +kernel, rfl, by decide +kernel, by decide +kernel⟩
abbrev s_law : Stmt := topS 15
abbrev NN_law : List Str := ["_law_script", "_law_pen_here", "_law_turn", "_law_log", "_law_kept", "_law_due_here", "_law_time", "_law_found", "_law_deed"]
theorem sc_law : FnScope ["_law_script", "_law_pen_here", "_law_turn", "_law_log", "_law_kept", "_law_due_here", "_law_time", "_law_found", "_law_deed"] ["_law_script"] (defScope s_law) := ⟨rfl, rfl, rfl, by decide +kernel, rfl, by decide +kernel, by decide +kernel⟩
def B_stamps_of : Ev → M Fl :=
  sRet (cmpE mkLst (itA (var 0)) [1, 2] (gUn 2 (gCn (gNm 1) (gCn (gNm 2) (gNl)))) (yesT) (var 1))
def F0_stamps_of : List D → M D := fnM leave 3 B_stamps_of
def B_may_undo : Ev → M Fl :=
  sSeq (sAsg (starD 2 (gCn (gNm 3) (gCn (gNm 4) (gCn (gNm 5) (gNl))))) (var 2)) (sRet (andE (bin (rd2 (eqP false)) (var 3) (cst (.str "undo"))) (andE (bin (dinD false) (var 4) (var 0)) (andE (bin (rd2 (eqP false)) (bin idxD (var 4) (cst (.int 1))) (bin idxD (var 1) (cst (.int 1)))) (bin (rd2 (ordG ltG)) (var 4) (var 1))))))
def F0_may_undo : List D → M D := fnM leave 6 B_may_undo
def B_law_pen : Ev → M Fl :=
  sRet (celE (aCons (cmpE mkLst (itA (slcE (var 0) (partN) (partE (cst (.int 63))))) [1] (gNm 1) (yesT) (var 1)) (aCons (cst (.int 0)) (aCons (cst (.int 0)) (aNil)))))
def F0_law_pen : List D → M D := fnM leaveK 2 B_law_pen
def B_law_take : Ev → M Fl :=
  sSeq (sIf (tstB (bin (rd2 (intP fun i j => decide (j < i))) (bin idxD (var 0) (cst (.int 2))) (cst (.int 0)))) (sSeq (sSet 5 (bin (rd2 modP) (bin idxD (var 0) (cst (.int 2))) (var 1))) (sSeq (sSub (bin (rd2 divP) (bin idxD (var 0) (cst (.int 2))) (var 1)) (var 0) (cst (.int 2))) (sRet (var 5)))) (sNil)) (sSeq (sSet 2 (bin idxD (var 0) (cst (.int 1)))) (sSeq (sSub (bin (rd2 addP) (var 2) (cst (.int 1))) (var 0) (cst (.int 1))) (sSeq (sSet 3 (bin (rd2 addP) (bin (rd2 mulP) (cst (.int 41)) (var 2)) (cst (.int 13)))) (sSeq (sIf (tstB (bin (rd2 (eqP true)) (bin idxD (var 0) (cst (.int 0))) (lstE (aNil)))) (sSet 3 (bin idxD (bin idxD (var 0) (cst (.int 0))) (bin (rd2 modP) (var 2) (app (one lenP) (aCons (bin idxD (var 0) (cst (.int 0))) (aNil)))))) (sNil)) (sSeq (sIf (andT (tstB (bin (rd2 (intP fun i j => decide (i < j))) (var 2) (app (one lenP) (aCons (bin idxD (var 0) (cst (.int 0))) (aNil))))) (tstB (bin (rd2 (intP fun i j => decide (j ≤ i))) (app (one absP) (aCons (var 3) (aNil))) (bin (rd2 powP) (cst (.int 10)) (cst (.int 18)))))) (sSeq (sSet 6 (bin (rd2 addP) (bin (rd2 mulP) (cst (.int 2)) (bin (rd2 subP) (app (one absP) (aCons (var 3) (aNil))) (bin (rd2 powP) (cst (.int 10)) (cst (.int 18))))) (app (one intOf) (aCons (bin (rd2 (intP fun i j => decide (i < j))) (var 3) (cst (.int 0))) (aNil))))) (sSeq (sSub (bin (rd2 divP) (var 6) (var 1)) (var 0) (cst (.int 2))) (sRet (bin (rd2 modP) (var 6) (var 1))))) (sNil)) (sSeq (sSet 4 (bin (rd2 modP) (bin (rd2 powP) (bin (rd2 addP) (bin (rd2 addP) (bin (rd2 addP) (bin (rd2 modP) (var 3) (cst (.int 2147483629))) (bin (rd2 mulP) (cst (.int 40709)) (var 2))) (bin (rd2 mulP) (bin (rd2 mulP) (cst (.int 7919)) (var 2)) (var 2))) (cst (.int 31))) (cst (.int 5))) (cst (.int 2147483647)))) (sSeq (sSet 4 (bin (rd2 modP) (bin (rd2 powP) (bin (rd2 addP) (bin (rd2 addP) (bin (rd2 mulP) (var 4) (cst (.int 48271))) (bin (rd2 mulP) (cst (.int 69621)) (var 2))) (cst (.int 11))) (cst (.int 3))) (cst (.int 2147483587)))) (sSeq (sIf (tstB (bin (rd2 (intP fun i j => decide (j < i))) (var 1) (bin (rd2 powP) (cst (.int 10)) (cst (.int 8))))) (sSet 4 (bin (rd2 powP) (bin (rd2 addP) (var 4) (cst (.int 17))) (cst (.int 7)))) (sNil)) (sRet (bin (rd2 modP) (bin (rd2 divP) (var 4) (cst (.int 7))) (var 1)))))))))))
def F0_law_take : List D → M D := fnM leave 7 B_law_take
def B_undone : Ev → M Fl :=
  sSeq (sSet 1 (cmpDE mkDct (itA (appN 1 (nox ∘ F0_stamps_of) (aCons (var 0) (aNil)))) [3] (gNm 3) (yesT) (var 3) (cst (.bool true)))) (sSeq (sSet 2 (newT)) (sSeq (sFor (itRev (var 0)) (gUn 2 (gCn (gNm 3) (gCn (gNm 4) (gNl)))) (sIf (andT (tstB (bin (dinD true) (var 3) (var 2))) (tst (appN 3 (nox ∘ F0_may_undo) (aCons (var 1) (aCons (var 3) (aCons (var 4) (aNil))))))) (sDput (var 3) (var 2) (bin idxD (var 4) (cst (.int 1)))) (sNil))) (sRet (var 2))))
def F0_undone : List D → M D := fnM leave 5 B_undone
def F1_undone : List D → M D := fnM leaveK 5 B_undone
def B_law_words : Ev → M Fl :=
  sSeq (sSet 2 (cst (.str "abcdefghijklmnopqrstuvwxyz"))) (sSeq (sSet 3 (meth "str" joinP (cst (.str "")) (aCons (cmpE mkLst (itR1 (aCons (appN 2 (nox ∘ F0_law_take) (aCons (var 0) (aCons (cst (.int 5)) (aNil)))) (aNil))) [9] (gNm 9) (yesT) (bin idxD (var 2) (appN 2 (nox ∘ F0_law_take) (aCons (var 0) (aCons (cst (.int 26)) (aNil)))))) (aNil)))) (sSeq (sSet 4 (appN 2 (nox ∘ F0_law_take) (aCons (var 0) (aCons (bin (rd2 addP) (app (one lenP) (aCons (var 3) (aNil))) (cst (.int 1))) (aNil))))) (sSeq (sSet 5 (appN 2 (nox ∘ F0_law_take) (aCons (var 0) (aCons (cst (.int 26)) (aNil))))) (sSeq (sSet 6 (bin idxD (lstE (aCons (cst (.int 1)) (aCons (cst (.int 3)) (aCons (cst (.int 5)) (aCons (cst (.int 7)) (aCons (cst (.int 9)) (aCons (cst (.int 11)) (aNil)))))))) (appN 2 (nox ∘ F0_law_take) (aCons (var 0) (aCons (cst (.int 6)) (aNil)))))) (sSeq (sSet 7 (appN 2 (nox ∘ F0_law_take) (aCons (var 0) (aCons (cst (.int 2)) (aNil))))) (sSeq (sSet 8 (celE (aNil))) (sSeq (sFor (itR1 (aCons (var 1) (aNil))) (gNm 9) (sSeq (sSet 10 (bin idxD (var 2) (bin (rd2 modP) (bin (rd2 addP) (var 5) (bin (rd2 mulP) (var 6) (var 9))) (cst (.int 26))))) (sDrop (meth "list" appendD (var 8) (aCons (bin (rd2 addP) (bin (rd2 addP) (bin (rd2 addP) (slcE (var 3) (partN) (partE (var 4))) (var 10)) (slcE (var 3) (partE (var 4)) (partN))) (bin (rd2 mulP) (cst (.str "z")) (bin (rd2 mulP) (var 7) (bin (rd2 modP) (var 9) (cst (.int 3)))))) (aNil)))))) (sRet (var 8)))))))))
def F0_law_words : List D → M D := fnM leave 11 B_law_words
def B_law_stamps : Ev → M Fl :=
  sSeq (sSet 3 (bin idxD (lstE (aCons (cst (.int 0)) (aCons (cst (.int 9)) (aCons (bin (rd2 subP) (bin (rd2 powP) (cst (.int 10)) (cst (.int 6))) (cst (.int 90))) (aNil))))) (appN 2 (nox ∘ F0_law_take) (aCons (var 0) (aCons (cst (.int 3)) (aNil)))))) (sSeq (sSet 4 (newK)) (sSeq (sSet 5 (celE (aNil))) (sSeq (sFor (itR1 (aCons (var 2) (aNil))) (gNm 6) (sSeq (sSet 7 (bin idxD (var 1) (appN 2 (nox ∘ F0_law_take) (aCons (var 0) (aCons (app (one lenP) (aCons (var 1) (aNil))) (aNil)))))) (sSeq (sSet 3 (bin (rd2 addP) (var 3) (bin idxD (lstE (aCons (cst (.int 0)) (aCons (cst (.int 0)) (aCons (cst (.int 1)) (aCons (cst (.int 2)) (aNil)))))) (appN 2 (nox ∘ F0_law_take) (aCons (var 0) (aCons (cst (.int 4)) (aNil))))))) (sSeq (sAsg (gUn 2 (gCn (gNm 8) (gCn (gNm 9) (gNl)))) (getE2 (var 4) (var 7) (tupE (aCons (cst (.int 0)) (aCons (un negD (cst (.int 1))) (aNil)))))) (sSeq (sSet 10 (tupE (aCons (app (maxD) (aCons (var 8) (aCons (bin (rd2 subP) (var 3) (appN 2 (nox ∘ F0_law_take) (aCons (var 0) (aCons (cst (.int 4)) (aNil))))) (aCons (cst (.int 0)) (aNil))))) (aCons (var 7) (aCons (bin (rd2 addP) (bin (rd2 addP) (var 9) (cst (.int 1))) (app (one intOf) (aCons (bin (rd2 (eqP false)) (appN 2 (nox ∘ F0_law_take) (aCons (var 0) (aCons (cst (.int 6)) (aNil)))) (cst (.int 0))) (aNil)))) (aNil)))))) (sSeq (sDput (tupE (aCons (bin idxD (var 10) (cst (.int 0))) (aCons (bin idxD (var 10) (cst (.int 2))) (aNil)))) (var 4) (var 7)) (sDrop (meth "list" appendD (var 5) (aCons (var 10) (aNil)))))))))) (sRet (var 5)))))
def F0_law_stamps : List D → M D := fnM leave 11 B_law_stamps
def B_law_simple : Ev → M Fl :=
  sSeq (sSet 3 (bin idxD (var 1) (appN 2 (nox ∘ F0_law_take) (aCons (var 0) (aCons (app (one lenP) (aCons (var 1) (aNil))) (aNil)))))) (sSeq (sSet 4 (bin idxD (var 1) (appN 2 (nox ∘ F0_law_take) (aCons (var 0) (aCons (app (one lenP) (aCons (var 1) (aNil))) (aNil)))))) (sSeq (sSet 5 (bin idxD (cst (.str "abcdef")) (appN 2 (nox ∘ F0_law_take) (aCons (var 0) (aCons (cst (.int 6)) (aNil)))))) (sSeq (sSet 6 (bin idxD (lstE (aCons (cst (.int 0)) (aCons (un negD (cst (.int 5))) (aCons (bin (rd2 subP) (bin (rd2 powP) (cst (.int 10)) (cst (.int 30))) (cst (.int 1))) (aCons (bin (rd2 subP) (cst (.int 1)) (bin (rd2 powP) (cst (.int 10)) (cst (.int 30)))) (aCons (appN 2 (nox ∘ F0_law_take) (aCons (var 0) (aCons (cst (.int 100)) (aNil)))) (aNil))))))) (appN 2 (nox ∘ F0_law_take) (aCons (var 0) (aCons (cst (.int 5)) (aNil)))))) (sSeq (sSet 7 (bin idxD (lstE (aCons (cst .none) (aCons (tupE (aCons (cst (.str "number")) (aCons (var 6) (aNil)))) (aNil)))) (app (one intOf) (aCons (bin (rd2 (intP fun i j => decide (j < i))) (appN 2 (nox ∘ F0_law_take) (aCons (var 0) (aCons (cst (.int 3)) (aNil)))) (cst (.int 0))) (aNil))))) (sSeq (sSet 8 (lstE (aCons (tupE (aCons (cst (.str "sheet")) (aCons (var 2) (aNil)))) (aCons (tupE (aCons (cst (.str "row")) (aCons (var 3) (aCons (bin idxD (lstE (aCons (cst .none) (aCons (var 4) (aNil)))) (appN 2 (nox ∘ F0_law_take) (aCons (var 0) (aCons (cst (.int 2)) (aNil))))) (aNil))))) (aCons (tupE (aCons (cst (.str "strike")) (aCons (var 3) (aNil)))) (aNil)))))) (sSeq (sSet 8 (bin (rd2 addP) (var 8) (lstE (aCons (tupE (aCons (cst (.str "put")) (aCons (var 3) (aCons (var 4) (aCons (var 5) (aCons (var 7) (aNil))))))) (aCons (tupE (aCons (cst (.str "name")) (aCons (var 3) (aCons (var 2) (aCons (var 4) (aCons (var 5) (aNil))))))) (aCons (tupE (aCons (cst (.str "fetch")) (aCons (var 3) (aNil)))) (aNil))))))) (sSeq (sSet 8 (bin (rd2 addP) (var 8) (lstE (aCons (tupE (aCons (cst (.str "let")) (aCons (var 3) (aCons (bin idxD (var 4) (cst (.int 1))) (aCons (bin idxD (lstE (aCons (cst (.str "")) (aCons (var 5) (aNil)))) (appN 2 (nox ∘ F0_law_take) (aCons (var 0) (aCons (cst (.int 2)) (aNil))))) (aCons (appN 2 (nox ∘ F0_law_take) (aCons (var 0) (aCons (cst (.int 3)) (aNil)))) (aNil))))))) (aCons (tupE (aCons (cst (.str "undo")) (aCons (var 3) (aNil)))) (aNil)))))) (sRet (bin idxD (var 8) (appN 2 (nox ∘ F0_law_take) (aCons (var 0) (aCons (cst (.int 8)) (aNil)))))))))))))
def F0_law_simple : List D → M D := fnM leave 9 B_law_simple
def B_law_drawn : Ev → M Fl :=
  sSeq (sSet 2 (appN 2 (nox ∘ F0_law_words) (aCons (var 0) (aCons (bin (rd2 addP) (cst (.int 2)) (appN 2 (nox ∘ F0_law_take) (aCons (var 0) (aCons (cst (.int 3)) (aNil))))) (aNil))))) (sSeq (sSet 3 (appN 3 (nox ∘ F0_law_stamps) (aCons (var 0) (aCons (var 2) (aCons (var 1) (aNil)))))) (sSeq (sSet 4 (tupE (aCons (appN 2 (nox ∘ F0_law_take) (aCons (var 0) (aCons (bin (rd2 powP) (cst (.int 10)) (cst (.int 6))) (aNil)))) (aCons (bin idxD (var 2) (cst (.int 0))) (aCons (cst (.int 199)) (aNil)))))) (sRet (app (one sortedP) (aCons (cmpE mkLst (itA (var 3)) [5] (gNm 5) (yesT) (tupE (aCons (var 5) (aCons (appN 3 (nox ∘ F0_law_simple) (aCons (var 0) (aCons (bin (rd2 addP) (var 3) (lstE (aCons (var 4) (aNil)))) (aCons (bin idxD (var 2) (un negD (cst (.int 1)))) (aNil))))) (aNil))))) (aNil))))))
def F0_law_drawn : List D → M D := fnM leave 6 B_law_drawn
def B_law_undos : Ev → M Fl :=
  sSeq (sSet 2 (appN 2 (nox ∘ F0_law_words) (aCons (var 0) (aCons (bin (rd2 addP) (cst (.int 1)) (appN 2 (nox ∘ F0_law_take) (aCons (var 0) (aCons (cst (.int 3)) (aNil))))) (aNil))))) (sSeq (sSet 3 (appN 3 (nox ∘ F0_law_stamps) (aCons (var 0) (aCons (var 2) (aCons (var 1) (aNil)))))) (sSeq (sSet 4 (celE (aNil))) (sSeq (sFor (itEnum (aCons (var 3) (aNil))) (gUn 2 (gCn (gNm 5) (gCn (gNm 6) (gNl)))) (sSeq (sSet 7 (cmpE mkLst (itA (slcE (var 3) (partN) (partE (var 5)))) [12] (gNm 12) (tstB (bin (rd2 (eqP false)) (bin idxD (var 12) (cst (.int 1))) (bin idxD (var 6) (cst (.int 1))))) (var 12))) (sSeq (sSet 8 (lstE (aCons (tupE (aCons (bin idxD (var 6) (cst (.int 0))) (aCons (bin idxD (var 6) (cst (.int 1))) (aCons (cst (.int 199)) (aNil))))) (aCons (tupE (aCons (cst (.int 0)) (aCons (cst (.str "zzzzzzzz")) (aCons (cst (.int 7)) (aNil))))) (aNil))))) (sSeq (sSet 8 (bin (rd2 addP) (var 8) (cmpE mkLst (itA (slcE (var 7) (partE (un negD (cst (.int 2)))) (partN))) [12] (gNm 12) (yesT) (tupE (aCons (app (maxD) (aCons (cst (.int 0)) (aCons (bin (rd2 subP) (bin idxD (var 12) (cst (.int 0))) (cst (.int 1))) (aNil)))) (aCons (bin idxD (var 12) (cst (.int 1))) (aCons (bin idxD (var 12) (cst (.int 2))) (aNil)))))))) (sSeq (sSet 9 (bin idxD (lstE (aCons (slcE (var 7) (partE (un negD (cst (.int 1)))) (partN)) (aCons (slcE (var 7) (partE (un negD (cst (.int 2)))) (partN)) (aCons (var 7) (aCons (var 7) (aCons (var 3) (aCons (var 8) (aNil)))))))) (appN 2 (nox ∘ F0_law_take) (aCons (var 0) (aCons (cst (.int 6)) (aNil)))))) (sSeq (sSet 10 (tupE (aCons (cst (.str "sheet")) (aCons (bin idxD (var 2) (cst (.int 0))) (aNil))))) (sSeq (sIf (andT (tstB (bin (rd2 (eqP true)) (var 9) (lstE (aNil)))) (tstB (bin (rd2 (intP fun i j => decide (j < i))) (appN 2 (nox ∘ F0_law_take) (aCons (var 0) (aCons (cst (.int 3)) (aNil)))) (cst (.int 0))))) (sSeq (sSet 11 (bin idxD (var 9) (appN 2 (nox ∘ F0_law_take) (aCons (var 0) (aCons (app (one lenP) (aCons (var 9) (aNil))) (aNil)))))) (sSet 10 (tupE (aCons (cst (.str "undo")) (aCons (var 11) (aNil)))))) (sNil)) (sDrop (meth "list" appendD (var 4) (aCons (tupE (aCons (var 6) (aCons (var 10) (aNil)))) (aNil))))))))))) (sRet (app (one sortedP) (aCons (var 4) (aNil)))))))
def F0_law_undos : List D → M D := fnM leave 13 B_law_undos
def B_law_namers (R : List D → M D) : Ev → M Fl :=
  sSeq (sIf (tstB (bin (dinD true) (var 1) (var 2))) (sSeq (sSet 3 (celE (aNil))) (sSeq (sFor (itA (var 0)) (gUn 2 (gCn (gNm 4) (gCn (gNm 5) (gNl)))) (sIf (andT (tstB (bin (rd2 (eqP false)) (var 5) (tupE (aCons (cst (.str "undo")) (aCons (var 1) (aNil)))))) (andT (tstB (bin (rd2 (eqP false)) (bin idxD (var 4) (cst (.int 1))) (bin idxD (var 1) (cst (.int 1))))) (tstB (bin (rd2 (ordG ltG)) (var 1) (var 4))))) (sIf (tstB (bin (rd2 (eqP false)) (appN 3 (nox ∘ R) (aCons (var 0) (aCons (var 4) (aCons (var 2) (aNil))))) (lstE (aNil)))) (sDrop (meth "list" appendD (var 3) (aCons (var 4) (aNil)))) (sNil)) (sNil))) (sDput (var 3) (var 2) (var 1)))) (sNil)) (sRet (bin dgetD (var 2) (var 1)))
def F0_law_namers : List D → M D := recM leaveK 6 B_law_namers 22
def B_law_due : Ev → M Fl :=
  sSeq (sSet 1 (newT)) (sSeq (sSet 2 (newT)) (sSeq (sFor (itA (var 0)) (gUn 2 (gCn (gNm 3) (gCn (gNm 4) (gNl)))) (sIf (tstB (bin (rd2 (eqP true)) (appN 3 (nox ∘ F0_law_namers) (aCons (var 0) (aCons (var 3) (aCons (var 1) (aNil))))) (lstE (aNil)))) (sDput (bin idxD (bin dgetD (var 1) (var 3)) (cst (.int 0))) (var 2) (var 3)) (sNil))) (sRet (var 2))))
def F0_law_due : List D → M D := fnM leave 5 B_law_due
def B_law : Ev → M Fl :=
  sSeq (sSet 1 (appN 1 (nox ∘ F0_law_pen) (aCons (var 0) (aNil)))) (sSeq (sFor (itR1 (aCons (cst (.int 4)) (aNil))) (gNm 2) (sSeq (sSet 3 (cmpE mkLst (itA (appN 2 (nox ∘ F0_law_undos) (aCons (var 1) (aCons (appN 2 (nox ∘ F0_law_take) (aCons (var 1) (aCons (cst (.int 21)) (aNil)))) (aNil))))) [8] (gNm 8) (tstB (bin (rd2 (intP fun i j => decide (j < i))) (appN 2 (nox ∘ F0_law_take) (aCons (var 1) (aCons (cst (.int 9)) (aNil)))) (cst (.int 0)))) (var 8))) (sSeq (sSet 4 (app (one reprP) (aCons (var 3) (aNil)))) (sSeq (sSet 5 (appN 1 (nox ∘ F0_law_due) (aCons (var 3) (aNil)))) (sFor (itR1 (aCons (cst (.int 2)) (aNil))) (gNm 6) (sSeq (sSet 7 (appN 1 (nox ∘ F1_undone) (aCons (var 3) (aNil)))) (sSeq (sIf (orT (notT (tst (app (isiD) (aCons (var 7) (aCons ((fun _ => ret (.ty "dict"))) (aNil)))))) (orT (tstB (bin (rd2 (eqP true)) (un sortItD (var 7)) (un sortItD (var 5)))) (tstB (bin (rd2 (eqP true)) (app (one reprP) (aCons (var 3) (aNil))) (var 4))))) (sRet (cst (.bool false))) (sNil)) (sDput (tupE (aCons (cst (.int 1)) (aCons (cst (.str "a")) (aCons (cst (.int 1)) (aNil))))) (var 7) (tupE (aCons (cst (.int 0)) (aCons (cst (.str "a")) (aCons (cst (.int 0)) (aNil))))))))))))) (sRet (bin (eqE0) (appN 1 (nox ∘ F0_undone) (aCons (lstE (aNil)) (aNil))) ((fun _ => emptyD)))))
def F0_law : List D → M D := fnM leave 9 B_law
structure Tops (K : PySem.W.Frag) (w : World) (mg : Str → Option Value) : Prop where
  d_stamps_of : DefAt K mg "stamps_of" s_stamps_of ["log"]
  d_may_undo : DefAt K mg "may_undo" s_may_undo ["there", "stamp", "what"]
  d_undone : DefAt K mg "undone" s_undone ["log"]
  d_law_pen : DefAt K mg "_law_pen" s_law_pen ["_law_script"]
  d_law_take : DefAt K mg "_law_take" s_law_take ["_law_pen_here", "_law_upto"]
  d_law_words : DefAt K mg "_law_words" s_law_words ["_law_pen_here", "_law_many"]
  d_law_stamps : DefAt K mg "_law_stamps" s_law_stamps ["_law_pen_here", "_law_hands", "_law_many"]
  d_law_simple : DefAt K mg "_law_simple" s_law_simple ["_law_pen_here", "_law_stamps_here", "_law_word"]
  d_law_drawn : DefAt K mg "_law_drawn" s_law_drawn ["_law_pen_here", "_law_many"]
  d_law_undos : DefAt K mg "_law_undos" s_law_undos ["_law_pen_here", "_law_many"]
  d_law_namers : DefAt K mg "_law_namers" s_law_namers ["_law_log", "_law_stamp", "_law_known"]
  d_law_due : DefAt K mg "_law_due" s_law_due ["_law_log"]
  d_law : DefAt K mg "law" s_law ["_law_script"]
  m_reversed : mg "reversed" = none
  m_len : mg "len" = none
  m_abs : mg "abs" = none
  m_int : mg "int" = none
  m_range : mg "range" = none
  m_max : mg "max" = none
  m_sorted : mg "sorted" = none
  m_enumerate : mg "enumerate" = none
  m_repr : mg "repr" = none
  m_dict : mg "dict" = none
  m_isinstance : mg "isinstance" = none
section
variable {P : Program} {w : World} {K : PySem.W.Frag} {mg : Str → Option Value} {base : Heap}
theorem ok_stamps_of (T : Tops K w mg) : Def P w K mg base 1 "stamps_of" 1 (nox ∘ F0_stamps_of) := by
  refine def_of (k := 0) T.d_stamps_of sc_stamps_of lv_leave rfl fun f cdv A outer s H E hr gd => ?_
  have nd := sc_stamps_of.nd
  exact (bs_one (ss_ret (es_cmp_ (wi := fun _ _ _ => True) (own := [("stamp", 1), ("what", 2)]) (S := [1, 2]) fin_lst (by decide) rfl nd (is_any (es_var 0)) (blkOk_by (N := NN_stamps_of) (sc := defScope s_stamps_of) (by decide +kernel)) (fun _ _ _ _ _ => (gs_seq rfl (gss_cons (gs_name nd) (gss_cons (gs_name nd) gss_nil)))) (fun _ _ _ _ _ => ts_yes) (fun _ _ _ _ _ => (es_var 1)))))
theorem ok_may_undo (T : Tops K w mg) : Def P w K mg base 1 "may_undo" 3 (nox ∘ F0_may_undo) := by
  refine def_of (k := 0) T.d_may_undo sc_may_undo lv_leave rfl fun f cdv A outer s H E hr gd => ?_
  have nd := sc_may_undo.nd
  exact (bs_cons (ss_star (S := [3, 4, 5]) (es_var 2) rfl (gss_cons (gs_name nd) (gss_cons (gs_name nd) (gss_star (gs_name nd)))))
    (bs_one (ss_ret (es_and (es_cmp (o_eq hr) (es_var 3) es_str (nomark _)) (es_and (es_cmp (o_din hr) (es_var 4) (es_var 0) (by rfl)) (es_and (es_cmp (o_eq hr) (es_ix ix_seqD (es_var 4) es_int) (es_ix ix_seqD (es_var 1) es_int) (nomark _)) (es_one (es_cmp (o_ltG hr) (es_var 4) (es_var 1) (nomark _)))))))))
theorem ok_law_pen (T : Tops K w mg) : Def P w K mg base 1 "_law_pen" 1 (nox ∘ F0_law_pen) := by
  refine def_of (k := 0) T.d_law_pen sc_law_pen lv_keep rfl fun f cdv A outer s H E hr gd => ?_
  have nd := sc_law_pen.nd
  exact (bs_one (ss_ret (es_cel (as_cons (es_cmp_ (wi := fun _ _ _ => True) (own := [("_law_cell", 1)]) (S := [1]) fin_lst (by decide) rfl nd (is_any (es_slc (es_var 0) os_none (os_some es_int))) (blkOk_by (N := NN_law_pen) (sc := defScope s_law_pen) (by decide +kernel)) (fun _ _ _ _ _ => (gs_name nd)) (fun _ _ _ _ _ => ts_yes) (fun _ _ _ _ _ => (es_var 1))) (as_cons es_int (as_cons es_int as_nil))))))
theorem ok_law_take (T : Tops K w mg) : Def P w K mg base 1 "_law_take" 2 (nox ∘ F0_law_take) := by
  refine def_of (k := 0) T.d_law_take sc_law_take lv_leave rfl fun f cdv A outer s H E hr gd => ?_
  have nd := sc_law_take.nd
  exact (bs_cons (ss_if (ts_cmp (o_gt) (es_ix ix_seqD (es_var 0) es_int) es_int (nomark _)) (bs_cons (ss_set (i := 5) nd (es_bin o_mod (es_ix ix_seqD (es_var 0) es_int) (es_var 1)))
    (bs_cons (ss_sub (es_bin o_div (es_ix ix_seqD (es_var 0) es_int) (es_var 1)) (es_var 0) es_int)
    (bs_one (ss_ret (es_var 5))))) bs_nil)
    (bs_cons (ss_set (i := 2) nd (es_ix ix_seqD (es_var 0) es_int))
    (bs_cons (ss_sub (es_bin o_add (es_var 2) es_int) (es_var 0) es_int)
    (bs_cons (ss_set (i := 3) nd (es_bin o_add (es_bin o_mul es_int (es_var 2)) es_int))
    (bs_cons (ss_if (ts_cmp (o_ne hr) (es_ix ix_seqD (es_var 0) es_int) (es_lst as_nil) (nomark _)) (bs_one (ss_set (i := 3) nd (es_ix ix_seqD (es_ix ix_seqD (es_var 0) es_int) (es_bin o_mod (es_var 2) (es_callB c_len (by rfl) T.m_len (by decide +kernel) (as_cons (es_ix ix_seqD (es_var 0) es_int) as_nil)))))) bs_nil)
    (bs_cons (ss_if (ws_ts (ws_and (ts_cmp (o_lti) (es_var 2) (es_callB c_len (by rfl) T.m_len (by decide +kernel) (as_cons (es_ix ix_seqD (es_var 0) es_int) as_nil)) (nomark _)) (ws_one (ts_cmp (o_ge) (es_callB c_abs (by rfl) T.m_abs (by decide +kernel) (as_cons (es_var 3) as_nil)) (es_bin o_pow es_int es_int) (nomark _))))) (bs_cons (ss_set (i := 6) nd (es_bin o_add (es_bin o_mul es_int (es_bin o_sub (es_callB c_abs (by rfl) T.m_abs (by decide +kernel) (as_cons (es_var 3) as_nil)) (es_bin o_pow es_int es_int))) (es_callTy c_int (by rfl) T.m_int (by decide +kernel) (as_cons (es_cmp (o_lti) (es_var 3) es_int (nomark _)) as_nil))))
    (bs_cons (ss_sub (es_bin o_div (es_var 6) (es_var 1)) (es_var 0) es_int)
    (bs_one (ss_ret (es_bin o_mod (es_var 6) (es_var 1)))))) bs_nil)
    (bs_cons (ss_set (i := 4) nd (es_bin o_mod (es_bin o_pow (es_bin o_add (es_bin o_add (es_bin o_add (es_bin o_mod (es_var 3) es_int) (es_bin o_mul es_int (es_var 2))) (es_bin o_mul (es_bin o_mul es_int (es_var 2)) (es_var 2))) es_int) es_int) es_int))
    (bs_cons (ss_set (i := 4) nd (es_bin o_mod (es_bin o_pow (es_bin o_add (es_bin o_add (es_bin o_mul (es_var 4) es_int) (es_bin o_mul es_int (es_var 2))) es_int) es_int) es_int))
    (bs_cons (ss_if (ts_cmp (o_gt) (es_var 1) (es_bin o_pow es_int es_int) (nomark _)) (bs_one (ss_set (i := 4) nd (es_bin o_pow (es_bin o_add (es_var 4) es_int) es_int))) bs_nil)
    (bs_one (ss_ret (es_bin o_mod (es_bin o_div (es_var 4) es_int) (es_var 1)))))))))))))
theorem ok_undone (T : Tops K w mg) : Def P w K mg base 2 "undone" 1 (nox ∘ F0_undone) := by
  have d_may_undo : Def P w K mg base 1 "may_undo" 3 (nox ∘ F0_may_undo) := ok_may_undo T
  have d_stamps_of : Def P w K mg base 1 "stamps_of" 1 (nox ∘ F0_stamps_of) := ok_stamps_of T
  refine def_of (k := 1) T.d_undone sc_undone lv_leave rfl fun f cdv A outer s H E hr gd => ?_
  have nd := sc_undone.nd
  exact (bs_cons (ss_dc (i := 1) (own := [("stamp", 3)]) (S := [3]) hr find_dct (by decide) rfl nd rfl rfl (swD_true rfl rfl rfl (by decide +kernel)) (is_any (es_call d_stamps_of hr (by decide) gd (by rfl) (as_cons (es_var 0) as_nil))) (blkOk_by (N := NN_undone) (sc := defScope s_undone) (by decide +kernel)) (fun _ _ _ _ _ => (gs_name nd)) (fun _ _ _ _ _ => ts_yes) (fun _ _ _ _ _ => (es_var 3)) (fun _ _ _ _ _ => es_bl))
    (bs_cons (ss_set (i := 2) nd (es_newT))
    (bs_cons (ss_for (S := [3, 4]) PassesOwn.never rfl (is_rev (by rfl) T.m_reversed (es_var 0)) (gs_seq rfl (gss_cons (gs_name nd) (gss_cons (gs_name nd) gss_nil))) (bs_one (ss_if (ws_ts (ws_and (ts_cmp (o_dnotin hr) (es_var 3) (es_var 2) (by rfl)) (ws_one (ts_val (es_call d_may_undo hr (by decide) gd (by rfl) (as_cons (es_var 1) (as_cons (es_var 3) (as_cons (es_var 4) as_nil)))))))) (bs_one (ss_dput hr (es_var 3) (es_var 2) (es_ix ix_seqD (es_var 4) es_int))) bs_nil)))
    (bs_one (ss_ret (es_var 2))))))
theorem ok1_undone (T : Tops K w mg) : Def P w K mg base 2 "undone" 1 (nox ∘ F1_undone) := by
  have d_may_undo : Def P w K mg base 1 "may_undo" 3 (nox ∘ F0_may_undo) := ok_may_undo T
  have d_stamps_of : Def P w K mg base 1 "stamps_of" 1 (nox ∘ F0_stamps_of) := ok_stamps_of T
  refine def_of (k := 1) T.d_undone sc_undone lv_keep rfl fun f cdv A outer s H E hr gd => ?_
  have nd := sc_undone.nd
  exact (bs_cons (ss_dc (i := 1) (own := [("stamp", 3)]) (S := [3]) hr find_dct (by decide) rfl nd rfl rfl (swD_true rfl rfl rfl (by decide +kernel)) (is_any (es_call d_stamps_of hr (by decide) gd (by rfl) (as_cons (es_var 0) as_nil))) (blkOk_by (N := NN_undone) (sc := defScope s_undone) (by decide +kernel)) (fun _ _ _ _ _ => (gs_name nd)) (fun _ _ _ _ _ => ts_yes) (fun _ _ _ _ _ => (es_var 3)) (fun _ _ _ _ _ => es_bl))
    (bs_cons (ss_set (i := 2) nd (es_newT))
    (bs_cons (ss_for (S := [3, 4]) PassesOwn.never rfl (is_rev (by rfl) T.m_reversed (es_var 0)) (gs_seq rfl (gss_cons (gs_name nd) (gss_cons (gs_name nd) gss_nil))) (bs_one (ss_if (ws_ts (ws_and (ts_cmp (o_dnotin hr) (es_var 3) (es_var 2) (by rfl)) (ws_one (ts_val (es_call d_may_undo hr (by decide) gd (by rfl) (as_cons (es_var 1) (as_cons (es_var 3) (as_cons (es_var 4) as_nil)))))))) (bs_one (ss_dput hr (es_var 3) (es_var 2) (es_ix ix_seqD (es_var 4) es_int))) bs_nil)))
    (bs_one (ss_ret (es_var 2))))))
theorem ok_law_words (T : Tops K w mg) : Def P w K mg base 2 "_law_words" 2 (nox ∘ F0_law_words) := by
  have d_law_take : Def P w K mg base 1 "_law_take" 2 (nox ∘ F0_law_take) := ok_law_take T
  refine def_of (k := 1) T.d_law_words sc_law_words lv_leave rfl fun f cdv A outer s H E hr gd => ?_
  have nd := sc_law_words.nd
  exact (bs_cons (ss_set (i := 2) nd es_str)
    (bs_cons (ss_set (i := 3) nd (es_meth (PySem.F.plainAttrs_str) PySem.F.slot_str_join PySem.F.type_str_join m_join es_str (as_cons (es_cmp_ (wi := fun _ _ _ => True) (own := [("_law_k", 9)]) (S := [9]) fin_lst (by decide) rfl nd (is_rng1 (by rfl) T.m_range (as_cons (es_call d_law_take hr (by decide) gd (by rfl) (as_cons (es_var 0) (as_cons es_int as_nil))) as_nil)) (blkOk_by (N := NN_law_words) (sc := defScope s_law_words) (by decide +kernel)) (fun _ _ _ _ _ => (gs_name nd)) (fun _ _ _ _ _ => ts_yes) (fun _ _ _ _ _ => (es_ix ix_seqD (es_var 2) (es_call d_law_take hr (by decide) gd (by rfl) (as_cons (es_var 0) (as_cons es_int as_nil)))))) as_nil)))
    (bs_cons (ss_set (i := 4) nd (es_call d_law_take hr (by decide) gd (by rfl) (as_cons (es_var 0) (as_cons (es_bin o_add (es_callB c_len (by rfl) T.m_len (by decide +kernel) (as_cons (es_var 3) as_nil)) es_int) as_nil))))
    (bs_cons (ss_set (i := 5) nd (es_call d_law_take hr (by decide) gd (by rfl) (as_cons (es_var 0) (as_cons es_int as_nil))))
    (bs_cons (ss_set (i := 6) nd (es_ix ix_seqD (es_lst (as_cons es_int (as_cons es_int (as_cons es_int (as_cons es_int (as_cons es_int (as_cons es_int as_nil))))))) (es_call d_law_take hr (by decide) gd (by rfl) (as_cons (es_var 0) (as_cons es_int as_nil)))))
    (bs_cons (ss_set (i := 7) nd (es_call d_law_take hr (by decide) gd (by rfl) (as_cons (es_var 0) (as_cons es_int as_nil))))
    (bs_cons (ss_set (i := 8) nd (es_cel as_nil))
    (bs_cons (ss_for (S := [9]) PassesOwn.never rfl (is_rng1 (by rfl) T.m_range (as_cons (es_var 1) as_nil)) (gs_name nd) (bs_cons (ss_set (i := 10) nd (es_ix ix_seqD (es_var 2) (es_bin o_mod (es_bin o_add (es_var 5) (es_bin o_mul (es_var 6) (es_var 9))) es_int)))
    (bs_one (ss_drop (es_meth (PySem.F.plainAttrs_list) PySem.F.slot_list_append PySem.F.type_list_append m_append (es_var 8) (as_cons (es_bin o_add (es_bin o_add (es_bin o_add (es_slc (es_var 3) os_none (os_some (es_var 4))) (es_var 10)) (es_slc (es_var 3) (os_some (es_var 4)) os_none)) (es_bin o_mul es_str (es_bin o_mul (es_var 7) (es_bin o_mod (es_var 9) es_int)))) as_nil))))))
    (bs_one (ss_ret (es_var 8)))))))))))
theorem ok_law_stamps (T : Tops K w mg) : Def P w K mg base 2 "_law_stamps" 3 (nox ∘ F0_law_stamps) := by
  have d_law_take : Def P w K mg base 1 "_law_take" 2 (nox ∘ F0_law_take) := ok_law_take T
  refine def_of (k := 1) T.d_law_stamps sc_law_stamps lv_leave rfl fun f cdv A outer s H E hr gd => ?_
  have nd := sc_law_stamps.nd
  exact (bs_cons (ss_set (i := 3) nd (es_ix ix_seqD (es_lst (as_cons es_int (as_cons es_int (as_cons (es_bin o_sub (es_bin o_pow es_int es_int) es_int) as_nil)))) (es_call d_law_take hr (by decide) gd (by rfl) (as_cons (es_var 0) (as_cons es_int as_nil)))))
    (bs_cons (ss_set (i := 4) nd (es_newK))
    (bs_cons (ss_set (i := 5) nd (es_cel as_nil))
    (bs_cons (ss_for (S := [6]) PassesOwn.never rfl (is_rng1 (by rfl) T.m_range (as_cons (es_var 2) as_nil)) (gs_name nd) (bs_cons (ss_set (i := 7) nd (es_ix ix_seqD (es_var 1) (es_call d_law_take hr (by decide) gd (by rfl) (as_cons (es_var 0) (as_cons (es_callB c_len (by rfl) T.m_len (by decide +kernel) (as_cons (es_var 1) as_nil)) as_nil)))))
    (bs_cons (ss_set (i := 3) nd (es_bin o_add (es_var 3) (es_ix ix_seqD (es_lst (as_cons es_int (as_cons es_int (as_cons es_int (as_cons es_int as_nil))))) (es_call d_law_take hr (by decide) gd (by rfl) (as_cons (es_var 0) (as_cons es_int as_nil))))))
    (bs_cons (ss_asg (S := [8, 9]) (es_get2 hr (es_var 4) (es_var 7) (es_tup (as_cons es_int (as_cons (es_neg es_int) as_nil)))) (gs_seq rfl (gss_cons (gs_name nd) (gss_cons (gs_name nd) gss_nil))))
    (bs_cons (ss_set (i := 10) nd (es_tup (as_cons (es_callB (c_max rfl) (by rfl) T.m_max (by decide +kernel) (as_cons (es_var 8) (as_cons (es_bin o_sub (es_var 3) (es_call d_law_take hr (by decide) gd (by rfl) (as_cons (es_var 0) (as_cons es_int as_nil)))) (as_cons es_int as_nil)))) (as_cons (es_var 7) (as_cons (es_bin o_add (es_bin o_add (es_var 9) es_int) (es_callTy c_int (by rfl) T.m_int (by decide +kernel) (as_cons (es_cmp (o_eq hr) (es_call d_law_take hr (by decide) gd (by rfl) (as_cons (es_var 0) (as_cons es_int as_nil))) es_int (nomark _)) as_nil))) as_nil)))))
    (bs_cons (ss_dput hr (es_tup (as_cons (es_ix ix_seqD (es_var 10) es_int) (as_cons (es_ix ix_seqD (es_var 10) es_int) as_nil))) (es_var 4) (es_var 7))
    (bs_one (ss_drop (es_meth (PySem.F.plainAttrs_list) PySem.F.slot_list_append PySem.F.type_list_append m_append (es_var 5) (as_cons (es_var 10) as_nil))))))))))
    (bs_one (ss_ret (es_var 5)))))))
theorem ok_law_simple (T : Tops K w mg) : Def P w K mg base 2 "_law_simple" 3 (nox ∘ F0_law_simple) := by
  have d_law_take : Def P w K mg base 1 "_law_take" 2 (nox ∘ F0_law_take) := ok_law_take T
  refine def_of (k := 1) T.d_law_simple sc_law_simple lv_leave rfl fun f cdv A outer s H E hr gd => ?_
  have nd := sc_law_simple.nd
  exact (bs_cons (ss_set (i := 3) nd (es_ix ix_seqD (es_var 1) (es_call d_law_take hr (by decide) gd (by rfl) (as_cons (es_var 0) (as_cons (es_callB c_len (by rfl) T.m_len (by decide +kernel) (as_cons (es_var 1) as_nil)) as_nil)))))
    (bs_cons (ss_set (i := 4) nd (es_ix ix_seqD (es_var 1) (es_call d_law_take hr (by decide) gd (by rfl) (as_cons (es_var 0) (as_cons (es_callB c_len (by rfl) T.m_len (by decide +kernel) (as_cons (es_var 1) as_nil)) as_nil)))))
    (bs_cons (ss_set (i := 5) nd (es_ix ix_seqD es_str (es_call d_law_take hr (by decide) gd (by rfl) (as_cons (es_var 0) (as_cons es_int as_nil)))))
    (bs_cons (ss_set (i := 6) nd (es_ix ix_seqD (es_lst (as_cons es_int (as_cons (es_neg es_int) (as_cons (es_bin o_sub (es_bin o_pow es_int es_int) es_int) (as_cons (es_bin o_sub es_int (es_bin o_pow es_int es_int)) (as_cons (es_call d_law_take hr (by decide) gd (by rfl) (as_cons (es_var 0) (as_cons es_int as_nil))) as_nil)))))) (es_call d_law_take hr (by decide) gd (by rfl) (as_cons (es_var 0) (as_cons es_int as_nil)))))
    (bs_cons (ss_set (i := 7) nd (es_ix ix_seqD (es_lst (as_cons es_non (as_cons (es_tup (as_cons es_str (as_cons (es_var 6) as_nil))) as_nil))) (es_callTy c_int (by rfl) T.m_int (by decide +kernel) (as_cons (es_cmp (o_gt) (es_call d_law_take hr (by decide) gd (by rfl) (as_cons (es_var 0) (as_cons es_int as_nil))) es_int (nomark _)) as_nil))))
    (bs_cons (ss_set (i := 8) nd (es_lst (as_cons (es_tup (as_cons es_str (as_cons (es_var 2) as_nil))) (as_cons (es_tup (as_cons es_str (as_cons (es_var 3) (as_cons (es_ix ix_seqD (es_lst (as_cons es_non (as_cons (es_var 4) as_nil))) (es_call d_law_take hr (by decide) gd (by rfl) (as_cons (es_var 0) (as_cons es_int as_nil)))) as_nil)))) (as_cons (es_tup (as_cons es_str (as_cons (es_var 3) as_nil))) as_nil)))))
    (bs_cons (ss_set (i := 8) nd (es_bin o_add (es_var 8) (es_lst (as_cons (es_tup (as_cons es_str (as_cons (es_var 3) (as_cons (es_var 4) (as_cons (es_var 5) (as_cons (es_var 7) as_nil)))))) (as_cons (es_tup (as_cons es_str (as_cons (es_var 3) (as_cons (es_var 2) (as_cons (es_var 4) (as_cons (es_var 5) as_nil)))))) (as_cons (es_tup (as_cons es_str (as_cons (es_var 3) as_nil))) as_nil))))))
    (bs_cons (ss_set (i := 8) nd (es_bin o_add (es_var 8) (es_lst (as_cons (es_tup (as_cons es_str (as_cons (es_var 3) (as_cons (es_ix ix_seqD (es_var 4) es_int) (as_cons (es_ix ix_seqD (es_lst (as_cons es_str (as_cons (es_var 5) as_nil))) (es_call d_law_take hr (by decide) gd (by rfl) (as_cons (es_var 0) (as_cons es_int as_nil)))) (as_cons (es_call d_law_take hr (by decide) gd (by rfl) (as_cons (es_var 0) (as_cons es_int as_nil))) as_nil)))))) (as_cons (es_tup (as_cons es_str (as_cons (es_var 3) as_nil))) as_nil)))))
    (bs_one (ss_ret (es_ix ix_seqD (es_var 8) (es_call d_law_take hr (by decide) gd (by rfl) (as_cons (es_var 0) (as_cons es_int as_nil))))))))))))))
theorem ok_law_drawn (T : Tops K w mg) : Def P w K mg base 3 "_law_drawn" 2 (nox ∘ F0_law_drawn) := by
  have d_law_simple : Def P w K mg base 2 "_law_simple" 3 (nox ∘ F0_law_simple) := ok_law_simple T
  have d_law_stamps : Def P w K mg base 2 "_law_stamps" 3 (nox ∘ F0_law_stamps) := ok_law_stamps T
  have d_law_take : Def P w K mg base 1 "_law_take" 2 (nox ∘ F0_law_take) := ok_law_take T
  have d_law_words : Def P w K mg base 2 "_law_words" 2 (nox ∘ F0_law_words) := ok_law_words T
  refine def_of (k := 2) T.d_law_drawn sc_law_drawn lv_leave rfl fun f cdv A outer s H E hr gd => ?_
  have nd := sc_law_drawn.nd
  exact (bs_cons (ss_set (i := 2) nd (es_call d_law_words hr (by decide) gd (by rfl) (as_cons (es_var 0) (as_cons (es_bin o_add es_int (es_call d_law_take hr (by decide) gd (by rfl) (as_cons (es_var 0) (as_cons es_int as_nil)))) as_nil))))
    (bs_cons (ss_set (i := 3) nd (es_call d_law_stamps hr (by decide) gd (by rfl) (as_cons (es_var 0) (as_cons (es_var 2) (as_cons (es_var 1) as_nil)))))
    (bs_cons (ss_set (i := 4) nd (es_tup (as_cons (es_call d_law_take hr (by decide) gd (by rfl) (as_cons (es_var 0) (as_cons (es_bin o_pow es_int es_int) as_nil))) (as_cons (es_ix ix_seqD (es_var 2) es_int) (as_cons es_int as_nil)))))
    (bs_one (ss_ret (es_callB (c_sorted hr) (by rfl) T.m_sorted (by decide +kernel) (as_cons (es_cmp_ (wi := fun _ _ _ => True) (own := [("_law_stamp", 5)]) (S := [5]) fin_lst (by decide) rfl nd (is_any (es_var 3)) (blkOk_by (N := NN_law_drawn) (sc := defScope s_law_drawn) (by decide +kernel)) (fun _ _ _ _ _ => (gs_name nd)) (fun _ _ _ _ _ => ts_yes) (fun _ _ _ _ _ => (es_tup (as_cons (es_var 5) (as_cons (es_call d_law_simple hr (by decide) gd (by rfl) (as_cons (es_var 0) (as_cons (es_bin o_add (es_var 3) (es_lst (as_cons (es_var 4) as_nil))) (as_cons (es_ix ix_seqD (es_var 2) (es_neg es_int)) as_nil)))) as_nil))))) as_nil)))))))
theorem ok_law_undos (T : Tops K w mg) : Def P w K mg base 3 "_law_undos" 2 (nox ∘ F0_law_undos) := by
  have d_law_stamps : Def P w K mg base 2 "_law_stamps" 3 (nox ∘ F0_law_stamps) := ok_law_stamps T
  have d_law_take : Def P w K mg base 1 "_law_take" 2 (nox ∘ F0_law_take) := ok_law_take T
  have d_law_words : Def P w K mg base 2 "_law_words" 2 (nox ∘ F0_law_words) := ok_law_words T
  refine def_of (k := 2) T.d_law_undos sc_law_undos lv_leave rfl fun f cdv A outer s H E hr gd => ?_
  have nd := sc_law_undos.nd
  exact (bs_cons (ss_set (i := 2) nd (es_call d_law_words hr (by decide) gd (by rfl) (as_cons (es_var 0) (as_cons (es_bin o_add es_int (es_call d_law_take hr (by decide) gd (by rfl) (as_cons (es_var 0) (as_cons es_int as_nil)))) as_nil))))
    (bs_cons (ss_set (i := 3) nd (es_call d_law_stamps hr (by decide) gd (by rfl) (as_cons (es_var 0) (as_cons (es_var 2) (as_cons (es_var 1) as_nil)))))
    (bs_cons (ss_set (i := 4) nd (es_cel as_nil))
    (bs_cons (ss_for (S := [5, 6]) PassesOwn.never rfl (is_enum (by rfl) T.m_enumerate (as_cons (es_var 3) as_nil)) (gs_seq rfl (gss_cons (gs_name nd) (gss_cons (gs_name nd) gss_nil))) (bs_cons (ss_cmp (i := 7) (own := [("_law_one", 12)]) (S := [12]) fin_lst (by decide) rfl nd rfl rfl (sw_true rfl rfl rfl (by decide +kernel)) (is_any (es_slc (es_var 3) os_none (os_some (es_var 5)))) (blkOk_by (N := NN_law_undos) (sc := defScope s_law_undos) (by decide +kernel)) (fun _ _ _ _ _ => (gs_name nd)) (fun _ _ _ _ _ => (ts_one (ts_cmp (o_eq hr) (es_ix ix_seqD (es_var 12) es_int) (es_ix ix_seqD (es_var 6) es_int) (nomark _)))) (fun _ _ _ _ _ => (es_var 12)))
    (bs_cons (ss_set (i := 8) nd (es_lst (as_cons (es_tup (as_cons (es_ix ix_seqD (es_var 6) es_int) (as_cons (es_ix ix_seqD (es_var 6) es_int) (as_cons es_int as_nil)))) (as_cons (es_tup (as_cons es_int (as_cons es_str (as_cons es_int as_nil)))) as_nil))))
    (bs_cons (ss_set (i := 8) nd (es_bin o_add (es_var 8) (es_cmp_ (wi := fun _ _ _ => True) (own := [("_law_one", 12)]) (S := [12]) fin_lst (by decide) rfl nd (is_any (es_slc (es_var 7) (os_some (es_neg es_int)) os_none)) (blkOk_by (N := NN_law_undos) (sc := defScope s_law_undos) (by decide +kernel)) (fun _ _ _ _ _ => (gs_name nd)) (fun _ _ _ _ _ => ts_yes) (fun _ _ _ _ _ => (es_tup (as_cons (es_callB (c_max rfl) (by rfl) T.m_max (by decide +kernel) (as_cons es_int (as_cons (es_bin o_sub (es_ix ix_seqD (es_var 12) es_int) es_int) as_nil))) (as_cons (es_ix ix_seqD (es_var 12) es_int) (as_cons (es_ix ix_seqD (es_var 12) es_int) as_nil))))))))
    (bs_cons (ss_set (i := 9) nd (es_ix ix_seqD (es_lst (as_cons (es_slc (es_var 7) (os_some (es_neg es_int)) os_none) (as_cons (es_slc (es_var 7) (os_some (es_neg es_int)) os_none) (as_cons (es_var 7) (as_cons (es_var 7) (as_cons (es_var 3) (as_cons (es_var 8) as_nil))))))) (es_call d_law_take hr (by decide) gd (by rfl) (as_cons (es_var 0) (as_cons es_int as_nil)))))
    (bs_cons (ss_set (i := 10) nd (es_tup (as_cons es_str (as_cons (es_ix ix_seqD (es_var 2) es_int) as_nil))))
    (bs_cons (ss_if (ws_ts (ws_and (ts_cmp (o_ne hr) (es_var 9) (es_lst as_nil) (nomark _)) (ws_one (ts_cmp (o_gt) (es_call d_law_take hr (by decide) gd (by rfl) (as_cons (es_var 0) (as_cons es_int as_nil))) es_int (nomark _))))) (bs_cons (ss_set (i := 11) nd (es_ix ix_seqD (es_var 9) (es_call d_law_take hr (by decide) gd (by rfl) (as_cons (es_var 0) (as_cons (es_callB c_len (by rfl) T.m_len (by decide +kernel) (as_cons (es_var 9) as_nil)) as_nil)))))
    (bs_one (ss_set (i := 10) nd (es_tup (as_cons es_str (as_cons (es_var 11) as_nil)))))) bs_nil)
    (bs_one (ss_drop (es_meth (PySem.F.plainAttrs_list) PySem.F.slot_list_append PySem.F.type_list_append m_append (es_var 4) (as_cons (es_tup (as_cons (es_var 6) (as_cons (es_var 10) as_nil))) as_nil)))))))))))
    (bs_one (ss_ret (es_callB (c_sorted hr) (by rfl) T.m_sorted (by decide +kernel) (as_cons (es_var 4) as_nil))))))))
theorem ok_law_namers (T : Tops K w mg) : Def P w K mg base 23 "_law_namers" 3 (nox ∘ F0_law_namers) := by
  refine rec_of (k := 0) (B := B_law_namers) T.d_law_namers sc_law_namers lv_keep rfl (fun j R hk dR f cdv A outer s H E hr gd => ?_) 22
  have nd := sc_law_namers.nd
  exact (bs_cons (ss_if (ts_cmp (o_dnotin hr) (es_var 1) (es_var 2) (by rfl)) (bs_cons (ss_set (i := 3) nd (es_cel as_nil))
    (bs_cons (ss_for (S := [4, 5]) PassesOwn.never rfl (is_any (es_var 0)) (gs_seq rfl (gss_cons (gs_name nd) (gss_cons (gs_name nd) gss_nil))) (bs_one (ss_if (ws_ts (ws_and (ts_cmp (o_eq hr) (es_var 5) (es_tup (as_cons es_str (as_cons (es_var 1) as_nil))) (nomark _)) (ws_and (ts_cmp (o_eq hr) (es_ix ix_seqD (es_var 4) es_int) (es_ix ix_seqD (es_var 1) es_int) (nomark _)) (ws_one (ts_cmp (o_ltG hr) (es_var 1) (es_var 4) (nomark _)))))) (bs_one (ss_if (ts_cmp (o_eq hr) (es_call dR hr (Nat.le_refl _) gd (by rfl) (as_cons (es_var 0) (as_cons (es_var 4) (as_cons (es_var 2) as_nil)))) (es_lst as_nil) (nomark _)) (bs_one (ss_drop (es_meth (PySem.F.plainAttrs_list) PySem.F.slot_list_append PySem.F.type_list_append m_append (es_var 3) (as_cons (es_var 4) as_nil)))) bs_nil)) bs_nil)))
    (bs_one (ss_dput hr (es_var 3) (es_var 2) (es_var 1))))) bs_nil)
    (bs_one (ss_ret (es_dget hr (es_var 2) (es_var 1)))))
theorem ok_law_due (T : Tops K w mg) : Def P w K mg base 24 "_law_due" 1 (nox ∘ F0_law_due) := by
  have d_law_namers : Def P w K mg base 23 "_law_namers" 3 (nox ∘ F0_law_namers) := ok_law_namers T
  refine def_of (k := 23) T.d_law_due sc_law_due lv_leave rfl fun f cdv A outer s H E hr gd => ?_
  have nd := sc_law_due.nd
  exact (bs_cons (ss_set (i := 1) nd (es_newT))
    (bs_cons (ss_set (i := 2) nd (es_newT))
    (bs_cons (ss_for (S := [3, 4]) PassesOwn.never rfl (is_any (es_var 0)) (gs_seq rfl (gss_cons (gs_name nd) (gss_cons (gs_name nd) gss_nil))) (bs_one (ss_if (ts_cmp (o_ne hr) (es_call d_law_namers hr (by decide) gd (by rfl) (as_cons (es_var 0) (as_cons (es_var 3) (as_cons (es_var 1) as_nil)))) (es_lst as_nil) (nomark _)) (bs_one (ss_dput hr (es_ix ix_seqD (es_dget hr (es_var 1) (es_var 3)) es_int) (es_var 2) (es_var 3))) bs_nil)))
    (bs_one (ss_ret (es_var 2))))))
theorem fg_law (T : Tops K w mg) {f : Addr} {fd : FuncData} (F : Fun K "law" "law" s_law f fd) : FG P w K mg base CX0 25 f fd ["_law_script"] (spF w K mg 1 (nox ∘ F0_law)) := by
  have d_law_due : Def P w K mg base 24 "_law_due" 1 (nox ∘ F0_law_due) := ok_law_due T
  have d_law_pen : Def P w K mg base 1 "_law_pen" 1 (nox ∘ F0_law_pen) := ok_law_pen T
  have d_law_take : Def P w K mg base 1 "_law_take" 2 (nox ∘ F0_law_take) := ok_law_take T
  have d_law_undos : Def P w K mg base 3 "_law_undos" 2 (nox ∘ F0_law_undos) := ok_law_undos T
  have d_undone : Def P w K mg base 2 "undone" 1 (nox ∘ F0_undone) := ok_undone T
  have d1_undone : Def P w K mg base 2 "undone" 1 (nox ∘ F1_undone) := ok1_undone T
  refine fg_fn (k := 24) F sc_law lv_leave rfl fun cdv A outer s H E hr gd => ?_
  have nd := sc_law.nd
  exact (bs_cons (ss_set (i := 1) nd (es_call d_law_pen hr (by decide) gd (by rfl) (as_cons (es_var 0) as_nil)))
    (bs_cons (ss_for (S := [2]) PassesOwn.never rfl (is_rng1 (by rfl) T.m_range (as_cons es_int as_nil)) (gs_name nd) (bs_cons (ss_cmp (i := 3) (own := [("_law_deed", 8)]) (S := [8]) fin_lst (by decide) rfl nd rfl rfl (sw_true rfl rfl rfl (by decide +kernel)) (is_any (es_call d_law_undos hr (by decide) gd (by rfl) (as_cons (es_var 1) (as_cons (es_call d_law_take hr (by decide) gd (by rfl) (as_cons (es_var 1) (as_cons es_int as_nil))) as_nil)))) (blkOk_by (N := NN_law) (sc := defScope s_law) (by decide +kernel)) (fun _ _ _ _ _ => (gs_name nd)) (fun _ _ _ _ _ => (ts_one (ts_cmp (o_gt) (es_call d_law_take hr (by decide) gd (by rfl) (as_cons (es_var 1) (as_cons es_int as_nil))) es_int (nomark _)))) (fun _ _ _ _ _ => (es_var 8)))
    (bs_cons (ss_set (i := 4) nd (es_callB (c_repr hr gd) (by rfl) T.m_repr (by decide +kernel) (as_cons (es_var 3) as_nil)))
    (bs_cons (ss_set (i := 5) nd (es_call d_law_due hr (by decide) gd (by rfl) (as_cons (es_var 3) as_nil)))
    (bs_one (ss_for (S := [6]) PassesOwn.never rfl (is_rng1 (by rfl) T.m_range (as_cons es_int as_nil)) (gs_name nd) (bs_cons (ss_set (i := 7) nd (es_call d1_undone hr (by decide) gd (by rfl) (as_cons (es_var 3) as_nil)))
    (bs_cons (ss_if (ws_ts (ws_or (ts_not (ts_val (es_callB c_isi (by rfl) T.m_isinstance (by decide +kernel) (as_cons (es_var 7) (as_cons (es_ty (by rfl) T.m_dict (by decide +kernel)) as_nil))))) (ws_or (ts_cmp (o_ne hr) (es_sortItems hr rfl (by rfl) T.m_sorted (by decide +kernel) (es_var 7)) (es_sortItems hr rfl (by rfl) T.m_sorted (by decide +kernel) (es_var 5)) (nomark _)) (ws_one (ts_cmp (o_ne hr) (es_callB (c_repr hr gd) (by rfl) T.m_repr (by decide +kernel) (as_cons (es_var 3) as_nil)) (es_var 4) (nomark _)))))) (bs_one (ss_ret es_bl)) bs_nil)
    (bs_one (ss_dput hr (es_tup (as_cons es_int (as_cons es_str (as_cons es_int as_nil)))) (es_var 7) (es_tup (as_cons es_int (as_cons es_str (as_cons es_int as_nil))))))))))))))
    (bs_one (ss_ret (es_cmp (o_eqE0 hr) (es_call d_undone hr (by decide) gd (by rfl) (as_cons (es_lst as_nil) as_nil)) es_emptyD (nomark _))))))
end
theorem all_mk {l : PySem.W.OpenLaw} {w : World} {K : PySem.W.Frag} {h : Heap} {mg : Str → Option Value} {fa : Addr} (X : K.In h) (GX : h.Ns mainGlobals mg) (hfa : mg "law" = some (.ref fa))
    {f_stamps_of : Addr} {oc_stamps_of kV_stamps_of dc_stamps_of pm_stamps_of cd_stamps_of ct_stamps_of : Value} {od_stamps_of an_stamps_of : Option Addr} {sl_stamps_of : Array (Option Value)}
    (a_stamps_of : PySem.W.nsIn K mainGlobals "stamps_of" = some (some (.ref f_stamps_of))) (l_stamps_of : K.lookup f_stamps_of = some ⟨oc_stamps_of, od_stamps_of, .func (PySem.W.fnOf "stamps_of" "stamps_of" (defArgs s_stamps_of) (defBody s_stamps_of) (defScope s_stamps_of) .none kV_stamps_of dc_stamps_of pm_stamps_of an_stamps_of cd_stamps_of ct_stamps_of), sl_stamps_of⟩) (c_stamps_of : PySem.W.codeIn K cd_stamps_of "stamps_of" = true) (k_stamps_of : PySem.W.keepIn K (.ref f_stamps_of) = true)
    {f_may_undo : Addr} {oc_may_undo kV_may_undo dc_may_undo pm_may_undo cd_may_undo ct_may_undo : Value} {od_may_undo an_may_undo : Option Addr} {sl_may_undo : Array (Option Value)}
    (a_may_undo : PySem.W.nsIn K mainGlobals "may_undo" = some (some (.ref f_may_undo))) (l_may_undo : K.lookup f_may_undo = some ⟨oc_may_undo, od_may_undo, .func (PySem.W.fnOf "may_undo" "may_undo" (defArgs s_may_undo) (defBody s_may_undo) (defScope s_may_undo) .none kV_may_undo dc_may_undo pm_may_undo an_may_undo cd_may_undo ct_may_undo), sl_may_undo⟩) (c_may_undo : PySem.W.codeIn K cd_may_undo "may_undo" = true) (k_may_undo : PySem.W.keepIn K (.ref f_may_undo) = true)
    {f_undone : Addr} {oc_undone kV_undone dc_undone pm_undone cd_undone ct_undone : Value} {od_undone an_undone : Option Addr} {sl_undone : Array (Option Value)}
    (a_undone : PySem.W.nsIn K mainGlobals "undone" = some (some (.ref f_undone))) (l_undone : K.lookup f_undone = some ⟨oc_undone, od_undone, .func (PySem.W.fnOf "undone" "undone" (defArgs s_undone) (defBody s_undone) (defScope s_undone) .none kV_undone dc_undone pm_undone an_undone cd_undone ct_undone), sl_undone⟩) (c_undone : PySem.W.codeIn K cd_undone "undone" = true) (k_undone : PySem.W.keepIn K (.ref f_undone) = true)
    {f_law_pen : Addr} {oc_law_pen kV_law_pen dc_law_pen pm_law_pen cd_law_pen ct_law_pen : Value} {od_law_pen an_law_pen : Option Addr} {sl_law_pen : Array (Option Value)}
    (a_law_pen : PySem.W.nsIn K mainGlobals "_law_pen" = some (some (.ref f_law_pen))) (l_law_pen : K.lookup f_law_pen = some ⟨oc_law_pen, od_law_pen, .func (PySem.W.fnOf "_law_pen" "_law_pen" (defArgs s_law_pen) (defBody s_law_pen) (defScope s_law_pen) .none kV_law_pen dc_law_pen pm_law_pen an_law_pen cd_law_pen ct_law_pen), sl_law_pen⟩) (c_law_pen : PySem.W.codeIn K cd_law_pen "_law_pen" = true) (k_law_pen : PySem.W.keepIn K (.ref f_law_pen) = true)
    {f_law_take : Addr} {oc_law_take kV_law_take dc_law_take pm_law_take cd_law_take ct_law_take : Value} {od_law_take an_law_take : Option Addr} {sl_law_take : Array (Option Value)}
    (a_law_take : PySem.W.nsIn K mainGlobals "_law_take" = some (some (.ref f_law_take))) (l_law_take : K.lookup f_law_take = some ⟨oc_law_take, od_law_take, .func (PySem.W.fnOf "_law_take" "_law_take" (defArgs s_law_take) (defBody s_law_take) (defScope s_law_take) .none kV_law_take dc_law_take pm_law_take an_law_take cd_law_take ct_law_take), sl_law_take⟩) (c_law_take : PySem.W.codeIn K cd_law_take "_law_take" = true) (k_law_take : PySem.W.keepIn K (.ref f_law_take) = true)
    {f_law_words : Addr} {oc_law_words kV_law_words dc_law_words pm_law_words cd_law_words ct_law_words : Value} {od_law_words an_law_words : Option Addr} {sl_law_words : Array (Option Value)}
    (a_law_words : PySem.W.nsIn K mainGlobals "_law_words" = some (some (.ref f_law_words))) (l_law_words : K.lookup f_law_words = some ⟨oc_law_words, od_law_words, .func (PySem.W.fnOf "_law_words" "_law_words" (defArgs s_law_words) (defBody s_law_words) (defScope s_law_words) .none kV_law_words dc_law_words pm_law_words an_law_words cd_law_words ct_law_words), sl_law_words⟩) (c_law_words : PySem.W.codeIn K cd_law_words "_law_words" = true) (k_law_words : PySem.W.keepIn K (.ref f_law_words) = true)
    {f_law_stamps : Addr} {oc_law_stamps kV_law_stamps dc_law_stamps pm_law_stamps cd_law_stamps ct_law_stamps : Value} {od_law_stamps an_law_stamps : Option Addr} {sl_law_stamps : Array (Option Value)}
    (a_law_stamps : PySem.W.nsIn K mainGlobals "_law_stamps" = some (some (.ref f_law_stamps))) (l_law_stamps : K.lookup f_law_stamps = some ⟨oc_law_stamps, od_law_stamps, .func (PySem.W.fnOf "_law_stamps" "_law_stamps" (defArgs s_law_stamps) (defBody s_law_stamps) (defScope s_law_stamps) .none kV_law_stamps dc_law_stamps pm_law_stamps an_law_stamps cd_law_stamps ct_law_stamps), sl_law_stamps⟩) (c_law_stamps : PySem.W.codeIn K cd_law_stamps "_law_stamps" = true) (k_law_stamps : PySem.W.keepIn K (.ref f_law_stamps) = true)
    {f_law_simple : Addr} {oc_law_simple kV_law_simple dc_law_simple pm_law_simple cd_law_simple ct_law_simple : Value} {od_law_simple an_law_simple : Option Addr} {sl_law_simple : Array (Option Value)}
    (a_law_simple : PySem.W.nsIn K mainGlobals "_law_simple" = some (some (.ref f_law_simple))) (l_law_simple : K.lookup f_law_simple = some ⟨oc_law_simple, od_law_simple, .func (PySem.W.fnOf "_law_simple" "_law_simple" (defArgs s_law_simple) (defBody s_law_simple) (defScope s_law_simple) .none kV_law_simple dc_law_simple pm_law_simple an_law_simple cd_law_simple ct_law_simple), sl_law_simple⟩) (c_law_simple : PySem.W.codeIn K cd_law_simple "_law_simple" = true) (k_law_simple : PySem.W.keepIn K (.ref f_law_simple) = true)
    {f_law_drawn : Addr} {oc_law_drawn kV_law_drawn dc_law_drawn pm_law_drawn cd_law_drawn ct_law_drawn : Value} {od_law_drawn an_law_drawn : Option Addr} {sl_law_drawn : Array (Option Value)}
    (a_law_drawn : PySem.W.nsIn K mainGlobals "_law_drawn" = some (some (.ref f_law_drawn))) (l_law_drawn : K.lookup f_law_drawn = some ⟨oc_law_drawn, od_law_drawn, .func (PySem.W.fnOf "_law_drawn" "_law_drawn" (defArgs s_law_drawn) (defBody s_law_drawn) (defScope s_law_drawn) .none kV_law_drawn dc_law_drawn pm_law_drawn an_law_drawn cd_law_drawn ct_law_drawn), sl_law_drawn⟩) (c_law_drawn : PySem.W.codeIn K cd_law_drawn "_law_drawn" = true) (k_law_drawn : PySem.W.keepIn K (.ref f_law_drawn) = true)
    {f_law_undos : Addr} {oc_law_undos kV_law_undos dc_law_undos pm_law_undos cd_law_undos ct_law_undos : Value} {od_law_undos an_law_undos : Option Addr} {sl_law_undos : Array (Option Value)}
    (a_law_undos : PySem.W.nsIn K mainGlobals "_law_undos" = some (some (.ref f_law_undos))) (l_law_undos : K.lookup f_law_undos = some ⟨oc_law_undos, od_law_undos, .func (PySem.W.fnOf "_law_undos" "_law_undos" (defArgs s_law_undos) (defBody s_law_undos) (defScope s_law_undos) .none kV_law_undos dc_law_undos pm_law_undos an_law_undos cd_law_undos ct_law_undos), sl_law_undos⟩) (c_law_undos : PySem.W.codeIn K cd_law_undos "_law_undos" = true) (k_law_undos : PySem.W.keepIn K (.ref f_law_undos) = true)
    {f_law_namers : Addr} {oc_law_namers kV_law_namers dc_law_namers pm_law_namers cd_law_namers ct_law_namers : Value} {od_law_namers an_law_namers : Option Addr} {sl_law_namers : Array (Option Value)}
    (a_law_namers : PySem.W.nsIn K mainGlobals "_law_namers" = some (some (.ref f_law_namers))) (l_law_namers : K.lookup f_law_namers = some ⟨oc_law_namers, od_law_namers, .func (PySem.W.fnOf "_law_namers" "_law_namers" (defArgs s_law_namers) (defBody s_law_namers) (defScope s_law_namers) .none kV_law_namers dc_law_namers pm_law_namers an_law_namers cd_law_namers ct_law_namers), sl_law_namers⟩) (c_law_namers : PySem.W.codeIn K cd_law_namers "_law_namers" = true) (k_law_namers : PySem.W.keepIn K (.ref f_law_namers) = true)
    {f_law_due : Addr} {oc_law_due kV_law_due dc_law_due pm_law_due cd_law_due ct_law_due : Value} {od_law_due an_law_due : Option Addr} {sl_law_due : Array (Option Value)}
    (a_law_due : PySem.W.nsIn K mainGlobals "_law_due" = some (some (.ref f_law_due))) (l_law_due : K.lookup f_law_due = some ⟨oc_law_due, od_law_due, .func (PySem.W.fnOf "_law_due" "_law_due" (defArgs s_law_due) (defBody s_law_due) (defScope s_law_due) .none kV_law_due dc_law_due pm_law_due an_law_due cd_law_due ct_law_due), sl_law_due⟩) (c_law_due : PySem.W.codeIn K cd_law_due "_law_due" = true) (k_law_due : PySem.W.keepIn K (.ref f_law_due) = true)
    {f_law : Addr} {oc_law kV_law dc_law pm_law cd_law ct_law : Value} {od_law an_law : Option Addr} {sl_law : Array (Option Value)}
    (a_law : PySem.W.nsIn K mainGlobals "law" = some (some (.ref f_law))) (l_law : K.lookup f_law = some ⟨oc_law, od_law, .func (PySem.W.fnOf "law" "law" (defArgs s_law) (defBody s_law) (defScope s_law) .none kV_law dc_law pm_law an_law cd_law ct_law), sl_law⟩) (c_law : PySem.W.codeIn K cd_law "law" = true) (k_law : PySem.W.keepIn K (.ref f_law) = true)
    (m_reversed : PySem.W.nsIn K mainGlobals "reversed" = some none)
    (m_len : PySem.W.nsIn K mainGlobals "len" = some none)
    (m_abs : PySem.W.nsIn K mainGlobals "abs" = some none)
    (m_int : PySem.W.nsIn K mainGlobals "int" = some none)
    (m_range : PySem.W.nsIn K mainGlobals "range" = some none)
    (m_max : PySem.W.nsIn K mainGlobals "max" = some none)
    (m_sorted : PySem.W.nsIn K mainGlobals "sorted" = some none)
    (m_enumerate : PySem.W.nsIn K mainGlobals "enumerate" = some none)
    (m_repr : PySem.W.nsIn K mainGlobals "repr" = some none)
    (m_dict : PySem.W.nsIn K mainGlobals "dict" = some none)
    (m_isinstance : PySem.W.nsIn K mainGlobals "isinstance" = some none)
    : ∃ fd : FuncData, (∀ (s : Shared) (u : Value), BindsTo s fd ⟨[u], []⟩ [("_law_script", u)]) ∧ ∀ base : Heap, K.In base → base.Ns mainGlobals mg → FG l.prog w K mg base CX0 25 fa fd ["_law_script"] (spF w K mg 1 (nox ∘ F0_law)) := by
  have T : Tops K w mg := ⟨defAt_mk X GX a_stamps_of l_stamps_of c_stamps_of k_stamps_of (fun _ _ _ _ _ _ us hl => match us, hl with | [_], _ => rfl),
    defAt_mk X GX a_may_undo l_may_undo c_may_undo k_may_undo (fun _ _ _ _ _ _ us hl => match us, hl with | [_, _, _], _ => rfl),
    defAt_mk X GX a_undone l_undone c_undone k_undone (fun _ _ _ _ _ _ us hl => match us, hl with | [_], _ => rfl),
    defAt_mk X GX a_law_pen l_law_pen c_law_pen k_law_pen (fun _ _ _ _ _ _ us hl => match us, hl with | [_], _ => rfl),
    defAt_mk X GX a_law_take l_law_take c_law_take k_law_take (fun _ _ _ _ _ _ us hl => match us, hl with | [_, _], _ => rfl),
    defAt_mk X GX a_law_words l_law_words c_law_words k_law_words (fun _ _ _ _ _ _ us hl => match us, hl with | [_, _], _ => rfl),
    defAt_mk X GX a_law_stamps l_law_stamps c_law_stamps k_law_stamps (fun _ _ _ _ _ _ us hl => match us, hl with | [_, _, _], _ => rfl),
    defAt_mk X GX a_law_simple l_law_simple c_law_simple k_law_simple (fun _ _ _ _ _ _ us hl => match us, hl with | [_, _, _], _ => rfl),
    defAt_mk X GX a_law_drawn l_law_drawn c_law_drawn k_law_drawn (fun _ _ _ _ _ _ us hl => match us, hl with | [_, _], _ => rfl),
    defAt_mk X GX a_law_undos l_law_undos c_law_undos k_law_undos (fun _ _ _ _ _ _ us hl => match us, hl with | [_, _], _ => rfl),
    defAt_mk X GX a_law_namers l_law_namers c_law_namers k_law_namers (fun _ _ _ _ _ _ us hl => match us, hl with | [_, _, _], _ => rfl),
    defAt_mk X GX a_law_due l_law_due c_law_due k_law_due (fun _ _ _ _ _ _ us hl => match us, hl with | [_], _ => rfl),
    defAt_mk X GX a_law l_law c_law k_law (fun _ _ _ _ _ _ us hl => match us, hl with | [_], _ => rfl),
    PySem.W.mg_none_of X GX m_reversed,
    PySem.W.mg_none_of X GX m_len,
    PySem.W.mg_none_of X GX m_abs,
    PySem.W.mg_none_of X GX m_int,
    PySem.W.mg_none_of X GX m_range,
    PySem.W.mg_none_of X GX m_max,
    PySem.W.mg_none_of X GX m_sorted,
    PySem.W.mg_none_of X GX m_enumerate,
    PySem.W.mg_none_of X GX m_repr,
    PySem.W.mg_none_of X GX m_dict,
    PySem.W.mg_none_of X GX m_isinstance⟩
  exact law_fn hfa T.d_law (fun _ _ _ _ _ _ s u => .of_eq rfl) fun base f fd Ff => fg_law T Ff
end
end G
namespace G
open MP
open PySem (PyData Str sizeLine)
/-- the pen's cell, and the other cells -/
def pn (cs : List Int) (at_ g : Int) (rest : Hm) : Hm := .lst [.p (.list (cs.map .int)), .p (.int at_), .p (.int g)] :: rest
theorem pn_len (cs : List Int) (at_ g : Int) (rest : Hm) : (pn cs at_ g rest).length = rest.length + 1 := rfl
theorem pn0 (cs : List Int) (at_ g : Int) (rest : Hm) : (pn cs at_ g rest)[0]? = some (.lst [.p (.list (cs.map .int)), .p (.int at_), .p (.int g)]) := rfl
theorem pn_set (cs : List Int) (at_ g : Int) (rest : Hm) (ds : List D) : (pn cs at_ g rest).set 0 (.lst ds) = .lst ds :: rest := rfl
theorem ints_shaped : ∀ (cs : List Int), PyData.canLayAll0 (cs.map .int) = true
  | [] => rfl
  | c :: cs => by simp only [List.map_cons, PyData.canLayAll0, PyData.canLay0, ints_shaped cs, Bool.and_self]
theorem ints_depth : ∀ (cs : List Int), PyData.depthAll (cs.map .int) = 0
  | [] => rfl
  | c :: cs => by simp only [List.map_cons, PyData.depthAll, PyData.depth, ints_depth cs, Nat.max_self]
theorem line_ge : (1000000 : Nat) ≤ sizeLine := by decide
theorem ints_shape (cs : List Int) : PySem.SeqAt.shaped (.list (cs.map .int)) = true := by
  simp [PySem.SeqAt.shaped, PyData.canLay0, PyData.depth, ints_shaped, ints_depth]
/-- the pen, after at most n takings -/
def Pen (n : Int) (rest : Hm) (h : Hm) : Prop := ∃ cs at_ g, cs.length ≤ 63 ∧ 0 ≤ at_ ∧ at_ ≤ n ∧ 0 ≤ g ∧ h = pn cs at_ g rest
theorem num_ok (c at_ : Int) (ha : 0 ≤ at_ ∧ at_ ≤ 10000000) : ((c % 2147483629 + 40709 * at_ + 7919 * at_ * at_ + 31).natAbs < 2 ^ 64) := by
  have h1 : 0 ≤ c % 2147483629 := Int.emod_nonneg _ (by decide)
  have h2 : c % 2147483629 < 2147483629 := Int.emod_lt_of_pos _ (by decide)
  have h3 : 0 ≤ 7919 * at_ * at_ := Int.mul_nonneg (by omega) ha.1
  have h4 : 7919 * at_ * at_ ≤ 7919 * 10000000 * 10000000 := Int.mul_le_mul (by omega) ha.2 ha.1 (by omega)
  omega
theorem num_ok2 (x at_ : Int) (ha : 0 ≤ at_ ∧ at_ ≤ 10000000) : ((x % 2147483647 * 48271 + 69621 * at_ + 11).natAbs < 2 ^ 64) := by
  have h1 : 0 ≤ x % 2147483647 := Int.emod_nonneg _ (by decide)
  have h2 : x % 2147483647 < 2147483647 := Int.emod_lt_of_pos _ (by decide)
  omega
theorem num_ok3 (x : Int) : ((x % 2147483587 + 17).natAbs < 2 ^ 64) := by
  have h1 : 0 ≤ x % 2147483587 := Int.emod_nonneg _ (by decide)
  have h2 : x % 2147483587 < 2147483587 := Int.emod_lt_of_pos _ (by decide)
  omega
theorem take_w (cs : List Int) (hc : cs.length ≤ 63) (at_ g u : Int) (ha : 0 ≤ at_ ∧ at_ ≤ 10000000) (hg : 0 ≤ g) (hu : 0 < u ∧ u < 1073741824) (rest : Hm) (Q : D → Hm → Prop)
    (hq : ∀ r at' g', 0 ≤ r → r < u → at_ ≤ at' → at' ≤ at_ + 1 → 0 ≤ g' → Q (.p (.int r)) (pn cs at' g' rest)) :
    W (F0_law_take [.cell 0, .p (.int u)]) (pn cs at_ g rest) Q := by
  unfold F0_law_take
  have hs : PySem.SeqAt.shaped (.list []) = true := by decide
  by_cases g0 : 0 < g
  · simp [w_fn, B_law_take, pn, L2.ixN, g0, hu]
    exact hq _ _ _ (Int.emod_nonneg _ (by omega)) (Int.emod_lt_of_pos _ hu.1) (Int.le_refl _) (by omega) (Int.ediv_nonneg hg (by omega))
  · by_cases c0 : cs = []
    · subst c0
      simp [w_fn, B_law_take, pn, L2.ixN, g0, hu, twoS, hs, PyData.eqv, PyData.eqvAll]
      rw [if_neg (by omega)]
      refine ⟨by omega, num_ok _ _ ha, num_ok2 _ _ ha, ?_⟩
      split
      · exact ⟨num_ok3 _, hq _ _ _ (Int.emod_nonneg _ (by omega)) (Int.emod_lt_of_pos _ hu.1) (by omega) (by omega) hg⟩
      · exact hq _ _ _ (Int.emod_nonneg _ (by omega)) (Int.emod_lt_of_pos _ hu.1) (by omega) (by omega) hg
    · obtain ⟨x, hx, e⟩ := atI_mod (cs.map PyData.int) at_ (by simpa using c0)
      obtain ⟨c, _, rfl⟩ := List.mem_map.mp hx
      simp only [List.length_map] at e
      have hl : 0 < cs.length := List.length_pos_iff.mpr c0
      have hne : PyData.eqvAll (cs.map .int) [] = false := by
        cases cs with
        | nil => exact absurd rfl c0
        | cons c r => rfl
      by_cases cn : c < 0
      all_goals
        simp [w_fn, B_law_take, pn, L2.ixN, g0, hu, twoS, hs, ints_shape, PyData.eqv, hne, c0, e, cn]
        refine ⟨by omega, ?_⟩
        split
        · split
          · exact hq _ _ _ (Int.emod_nonneg _ (by omega)) (Int.emod_lt_of_pos _ hu.1) (by omega) (Int.le_refl _) (Int.ediv_nonneg (by omega) (by omega))
          · refine ⟨by omega, num_ok _ _ ha, num_ok2 _ _ ha, ?_⟩
            split
            · exact ⟨num_ok3 _, hq _ _ _ (Int.emod_nonneg _ (by omega)) (Int.emod_lt_of_pos _ hu.1) (by omega) (Int.le_refl _) hg⟩
            · exact hq _ _ _ (Int.emod_nonneg _ (by omega)) (Int.emod_lt_of_pos _ hu.1) (by omega) (Int.le_refl _) hg
        · refine ⟨by omega, num_ok _ _ ha, num_ok2 _ _ ha, ?_⟩
          split
          · exact ⟨num_ok3 _, hq _ _ _ (Int.emod_nonneg _ (by omega)) (Int.emod_lt_of_pos _ hu.1) (by omega) (Int.le_refl _) hg⟩
          · exact hq _ _ _ (Int.emod_nonneg _ (by omega)) (Int.emod_lt_of_pos _ hu.1) (by omega) (Int.le_refl _) hg
/-- one taking -/
theorem pen_take {n u : Int} {rest h : Hm} {Q : D → Hm → Prop} (p : Pen n rest h) (hn : n ≤ 10000000) (hu : 0 < u ∧ u < 1073741824) (hq : ∀ r h', 0 ≤ r → r < u → Pen (n + 1) rest h' → Q (.p (.int r)) h') : W (F0_law_take [.cell 0, .p (.int u)]) h Q := by
  obtain ⟨cs, at_, g, hc, h1, h2, h3, rfl⟩ := p
  exact take_w cs hc at_ g u ⟨h1, by omega⟩ h3 hu rest Q fun r at' g' q1 q2 q3 q4 q5 => hq r _ q1 q2 ⟨cs, at', g', hc, by omega, by omega, q5, rfl⟩
end G
namespace G
open MP
open PySem (PyData Str sizeLine)
/-- small letters alone -/
def lows (z : Str) : Prop := ∀ c ∈ z.cps.toList, 97 ≤ c ∧ c ≤ 122
theorem lows_app {x y : Str} (h : lows x) (g : lows y) : lows (x ++ y) := by
  intro c hc
  have : (x ++ y).cps = x.cps ++ y.cps := rfl
  rw [this, Array.toList_append, List.mem_append] at hc
  exact hc.elim (h c) (g c)
theorem len_app (x y : Str) : (x ++ y).length = x.length + y.length := Array.size_append
theorem len_list (x : Str) : x.cps.toList.length = x.length := rfl
theorem lows_cut {x : Str} (lo hi : Option Int) (h : lows x) : lows (cutStr x lo hi) := by
  intro c hc
  simp only [cutStr, cutP] at hc
  exact h c (List.mem_of_mem_drop (List.mem_of_mem_take hc))
theorem len_cut (x : Str) (k : Int) (h0 : 0 ≤ k) (h1 : k ≤ x.length) : (cutStr x none (some k)).length = k.toNat ∧ (cutStr x (some k) none).length = x.length - k.toNat := by
  obtain ⟨j, rfl⟩ := Int.eq_ofNat_of_zero_le h0
  have e : x.cps.toList.length = x.length := rfl
  have hj : j ≤ x.length := by omega
  constructor
  · show (cutP x.cps.toList none (some (j : Int))).length = _
    simp only [cutP, HT.sIx_none, HT.sIx_nat, e]
    simp [e, Nat.min_eq_left hj]
  · show (cutP x.cps.toList (some (j : Int)) none).length = _
    simp only [cutP, HT.sIx_none, HT.sIx_nat, e]
    simp [e, Nat.min_eq_left hj]
theorem lows_mul (n : Int) : lows (strMul "z" n) := by
  intro c hc
  simp only [strMul, List.mem_flatten, List.mem_replicate] at hc
  obtain ⟨l, ⟨_, rfl⟩, hc⟩ := hc
  have : ("z" : Str).cps.toList = [122] := by decide
  rw [this] at hc
  simp only [List.mem_singleton] at hc
  subst hc
  exact ⟨by decide, by decide⟩
theorem len_mul (n : Int) : (strMul "z" n).length = n.toNat := by
  have : ("z" : Str).cps.toList = [122] := by decide
  show ((List.replicate n.toNat ("z" : Str).cps.toList).flatten).length = _
  rw [this]
  simp
theorem abc_at (i : Int) (h0 : 0 ≤ i) (h1 : i < 26) : ∃ c : Nat, 97 ≤ c ∧ c ≤ 122 ∧ L2.atI (("abcdefghijklmnopqrstuvwxyz" : Str).cps.toList) i = some c := by
  obtain ⟨k, rfl⟩ := Int.eq_ofNat_of_zero_le h0
  have hk : k < 26 := by omega
  have h : ∀ j : Nat, j < 26 → L2.atI (("abcdefghijklmnopqrstuvwxyz" : Str).cps.toList) (j : Int) = some (97 + j) := by decide +kernel
  exact ⟨97 + k, by omega, by omega, h k hk⟩
theorem abc_len : ("abcdefghijklmnopqrstuvwxyz" : Str).length ≤ sizeLine := by decide +kernel
/-- texts of one small letter each -/
def signs (ys : List D) : Prop := ∀ y ∈ ys, ∃ c : Nat, 97 ≤ c ∧ c ≤ 122 ∧ y = .p (.str ⟨#[c]⟩)
theorem signs_txts : ∀ {ys : List D}, signs ys → ∃ (xs : List PyData) (zs : List Str), plain ys = some xs ∧ txts xs = some zs ∧ (zs.map (·.length)).sum = ys.length ∧ zs.length = ys.length ∧ (PySem.Txt.join ⟨#[]⟩ zs).length = ys.length ∧ lows (PySem.Txt.join ⟨#[]⟩ zs)
  | [], _ => ⟨[], [], rfl, rfl, rfl, rfl, rfl, by intro c hc; exact absurd hc (by simp [show (PySem.Txt.join ⟨#[]⟩ []).cps.toList = [] from rfl])⟩
  | y :: ys, h => by
    obtain ⟨c, h1, h2, rfl⟩ := h y (List.mem_cons_self ..)
    obtain ⟨xs, zs, e1, e2, e3, e4, e5, e6⟩ := signs_txts fun y hy => h y (List.mem_cons_of_mem _ hy)
    have j : (PySem.Txt.join ⟨#[]⟩ (⟨#[c]⟩ :: zs)).cps.toList = c :: (PySem.Txt.join ⟨#[]⟩ zs).cps.toList := by
      rw [TL.join_eq, TL.join_eq]
      cases zs with
      | nil => rfl
      | cons z r =>
        show ((⟨#[c]⟩ : Str) ++ ⟨#[]⟩ ++ PySem.Str.join ⟨#[]⟩ (z :: r)).cps.toList = _
        show ((#[c] ++ #[]) ++ (PySem.Str.join ⟨#[]⟩ (z :: r)).cps).toList = _
        simp
    refine ⟨.str ⟨#[c]⟩ :: xs, ⟨#[c]⟩ :: zs, by rw [plain_cons, e1]; rfl, by simp [txts, e2], ?_, by simp [e4], ?_, ?_⟩
    · simp only [List.map_cons, List.sum_cons, e3, List.length_cons]
      show 1 + _ = _
      omega
    · rw [← len_list, j, List.length_cons, len_list, e5, List.length_cons]
    · intro d hd
      rw [j, List.mem_cons] at hd
      rcases hd with rfl | hd
      · exact ⟨h1, h2⟩
      · exact e6 d hd
theorem w_join {a : Str} {xs : List PyData} {zs : List Str} {h : Hm} {Q : D → Hm → Prop} (e : txts xs = some zs) (hz : (zs.map (·.length)).sum + zs.length * a.length ≤ 16777216) (q : Q (.p (.str (PySem.Txt.join a zs))) h) : W (joinP (.p (.str a)) [.p (.list xs)]) h Q := by
  show W (match txts xs with
      | some ys => chk ((ys.map (·.length)).sum + ys.length * a.length ≤ 16777216) (ret (.p (.str (PySem.Txt.join a ys))))
      | none => bad) h Q
  rw [e]
  exact w_chk.mpr ⟨hz, w_ret.mpr q⟩
/-- a word: small letters, one to seven -/
def word7 (z : Str) : Prop := 1 ≤ z.length ∧ z.length ≤ 7 ∧ lows z
theorem Pen.len {n : Int} {rest h : Hm} (p : Pen n rest h) : h.length = rest.length + 1 := by
  obtain ⟨cs, a, g, _, _, _, _, rfl⟩ := p; rfl
theorem Pen.le {n m : Int} {rest h : Hm} (p : Pen n rest h) (e : n ≤ m) : Pen m rest h := by
  obtain ⟨cs, a, g, h0, h1, h2, h3, rfl⟩ := p
  exact ⟨cs, a, g, h0, h1, by omega, h3, rfl⟩
theorem Pen.add {n : Int} {rest h : Hm} (p : Pen n rest h) (c : C) : Pen n (rest ++ [c]) (h ++ [c]) := by
  obtain ⟨cs, a, g, h0, h1, h2, h3, rfl⟩ := p
  exact ⟨cs, a, g, h0, h1, h2, h3, rfl⟩
theorem Pen.get {n : Int} {rest h : Hm} {c : C} (p : Pen n (rest ++ [c]) h) : h[rest.length + 1]? = some c := by
  obtain ⟨cs, a, g, h0, h1, h2, h3, rfl⟩ := p
  simp [pn]
theorem Pen.put {n : Int} {rest h : Hm} {c : C} (p : Pen n (rest ++ [c]) h) (c' : C) : Pen n (rest ++ [c']) (h.set (rest.length + 1) c') := by
  obtain ⟨cs, a, g, h0, h1, h2, h3, rfl⟩ := p
  refine ⟨cs, a, g, h0, h1, h2, h3, ?_⟩
  simp [pn]
theorem Pen.low {n : Int} {rest h : Hm} {k : Nat} (p : Pen n rest h) (hl : low k rest = true) : low k h = true := by
  obtain ⟨cs, a, g, h0, h1, h2, h3, rfl⟩ := p
  unfold MP.low at hl
  simp only [List.all_eq_true] at hl
  simp only [MP.low, pn, List.all_cons, lowC, lowDs, lowD, Bool.and_self, Bool.true_and, List.all_eq_true]
  exact hl
/-- leaving with the last cell, a list of data -/
theorem leave_last {n : Int} {rest h : Hm} {xs : List PyData} {Q : D → Hm → Prop} (p : Pen n (rest ++ [.lst (xs.map .p)]) h) (hl : low (rest.length + 1) rest = true) (q : ∀ h', Pen n rest h' → Q (.p (.list xs)) h') : Wr (leave (rest.length + 1) (.cell (rest.length + 1)) h) Q := by
  obtain ⟨cs, a, g, h0, h1, h2, h3, rfl⟩ := p
  have e1 : (pn cs a g (rest ++ [.lst (xs.map .p)])).take (rest.length + 1) = pn cs a g rest := by simp [pn]
  have p' : Pen n rest (pn cs a g rest) := ⟨cs, a, g, h0, h1, h2, h3, rfl⟩
  have e2 : frz (rest.length + 1) (pn cs a g (rest ++ [.lst (xs.map .p)])) (.cell (rest.length + 1)) = some (.p (.list xs)) := by
    simp [frz, pn, plain_map]
  unfold leave
  rw [if_neg (by simp [pn]), e1, if_pos (p'.low hl), e2]
  exact wr_ok.mpr (q _ p')
theorem words_w {n m : Int} {rest h : Hm} {Q : D → Hm → Prop} (p : Pen n rest h) (hn : n ≤ 9000000) (hm : 0 ≤ m ∧ m ≤ 1000) (hl : low (rest.length + 1) rest = true)
    (hq : ∀ (zs : List Str) h', (zs.length : Int) = m → (∀ z ∈ zs, word7 z) → Pen (n + 10) rest h' → Q (.p (.list (zs.map .str))) h') : W (F0_law_words [.cell 0, .p (.int m)]) h Q := by
  unfold F0_law_words
  rw [w_fn]
  have he : Str.ofString "" = ⟨#[]⟩ := by decide
  simp only [B_law_words, w_seq, w_seti, w_meth, w_cmpE, cst_eq, w_ret, nxt_nx, List.map_cons, List.map_nil, List.length_cons, List.length_nil, w_itR1, w_aCons, w_appN, var_zero, var_succ, w_aNil, List.cons_append, List.nil_append, List.replicate_succ, List.replicate_zero, List.set_cons_succ, List.set_cons_zero, isTyD, he, wipeE]
  refine ⟨rfl, trivial, pen_take p (by omega) (by decide) fun r h1 r0 r1 p1 => ?_⟩
  simp only [is1_i]
  refine ⟨by omega, ?_⟩
  refine w_cmpL (fun ds ys h => Pen (n + 1 + ys.length) rest h ∧ signs ys ∧ ds.length + ys.length = r.toNat) ?_ _ [] _ _ ⟨p1.le (by simp), (by intro y hy; cases hy), by simp [rngL]⟩ ?_
  · rintro d ds ys h2 ⟨p2, sg, e⟩
    simp only [List.length_cons] at e
    refine ⟨_, rfl, ?_⟩
    simp only [w_yesT, if_true, w_bin, w_appN, w_aCons, w_aNil, var_zero, var_succ, cst_eq, w_ret, List.set_cons_succ, List.set_cons_zero]
    refine ⟨rfl, pen_take p2 (by omega) (by decide) fun q h3 q0 q1 p3 => ?_⟩
    rw [w_ixs]
    obtain ⟨c, c1, c2, ec⟩ := abc_at q q0 q1
    refine ⟨abc_len, c, ec, p3.le (by simp; omega), ?_, by simp; omega⟩
    intro y hy
    rcases List.mem_append.mp hy with hy | hy
    · exact sg y hy
    · rw [List.mem_singleton] at hy; exact ⟨c, c1, c2, hy⟩
  rintro zs h2 ⟨p2, sg, e⟩
  simp only [List.nil_append, List.length_nil, Nat.zero_add] at p2 sg e
  obtain ⟨xs, bs, e1, e2, e3, e4, e5, e6⟩ := signs_txts sg
  have hz : zs.length ≤ 4 := by omega
  have hL : (2000 : Nat) ≤ sizeLine := by decide
  rw [w_mkL]
  refine ⟨by omega, xs, e1, w_join e2 (by rw [e3]; show _ + _ * 0 ≤ _; omega) ?_⟩
  generalize PySem.Txt.join ⟨#[]⟩ bs = base at e5 e6
  simp only [w_bin, w_app, w_aCons, w_aNil, var_zero, var_succ, cst_eq, w_ret, w_one, lenP_s, w_chk, rd2_p, addP_i]
  refine ⟨by omega, trivial, pen_take p2 (by omega) (by omega) fun spot h3 s0 s1 p3 => ?_⟩
  refine ⟨trivial, pen_take p3 (by omega) (by decide) fun first h4 f0 f1 p4 => ?_⟩
  simp only [w_lstE, w_aCons, w_aNil, cst_eq, w_ret, w_mkL, plain_cons, plain_nil, Option.map_some, Option.some.injEq, exists_eq_left', w_appN, var_zero, var_succ]
  refine ⟨by simp only [List.length_cons, List.length_nil]; omega, rfl, pen_take p4 (by omega) (by decide) fun li h5 l0 l1 p5 => ?_⟩
  have hleap : ∃ j : Int, 0 ≤ j ∧ j ≤ 11 ∧ L2.atI [PyData.int 1, .int 3, .int 5, .int 7, .int 9, .int 11] li = some (.int j) := by
    obtain ⟨x, hx, ex⟩ := atI_lt [PyData.int 1, .int 3, .int 5, .int 7, .int 9, .int 11] li l0 (by simpa using l1)
    simp only [List.mem_cons, List.not_mem_nil, or_false] at hx
    rcases hx with rfl | rfl | rfl | rfl | rfl | rfl
    all_goals exact ⟨_, by decide, by decide, ex⟩
  obtain ⟨leap, j0, j1, ej⟩ := hleap
  rw [w_ixl]
  refine ⟨_, ej, trivial, pen_take p5 (by omega) (by decide) fun tail h6 t0 t1 p6 => ?_⟩
  simp only [w_celE, w_aNil, w_newL, w_for, w_itR1, w_aCons, w_aNil, var_zero, var_succ, w_ret, is1_i, List.length_nil]
  refine ⟨by omega, by omega, ?_⟩
  rw [p6.len]
  refine w_forL (fun ds μ h => ∃ (zs : List Str) (o9 o10 : Option D), (zs.length : Int) + ds.length = m ∧ (∀ z ∈ zs, word7 z) ∧ (∀ d ∈ ds, ∃ k : Int, 0 ≤ k ∧ k < 1000 ∧ d = .p (.int k)) ∧ Pen (n + 10) (rest ++ [.lst ((zs.map PyData.str).map .p)]) h ∧
    μ = [some (.cell 0), some (.p (.int m)), some (.p (.str "abcdefghijklmnopqrstuvwxyz")), some (.p (.str base)), some (.p (.int spot)), some (.p (.int first)), some (.p (.int leap)), some (.p (.int tail)), some (.cell (rest.length + 1)), o9, o10]) ?_ ?_ _ _ _ ⟨[], none, none, (by simp [rngL]; omega), (by intro z hz; cases hz), ?_, (p6.le (by omega)).add _, rfl⟩
  · rintro μ h7 ⟨zs, o9, o10, ez, gz, _, p7, rfl⟩
    simp only [nxt_nx, w_sret, var_zero, var_succ, w_ret]
    rw [p.len]
    simp only [List.length_nil] at ez
    exact leave_last p7 hl fun h8 p8 => hq zs h8 (by omega) gz p8
  · rintro d ds μ h7 ⟨zs, o9, o10, ez, gz, gd, p7, rfl⟩
    obtain ⟨k, k0, k1, rfl⟩ := gd d (List.mem_cons_self ..)
    simp only [List.length_cons] at ez
    refine ⟨_, rfl, ?_⟩
    simp only [w_seq, w_seti, w_bin, var_zero, var_succ, w_ret, cst_eq, List.set_cons_succ, List.set_cons_zero, rd2_p, mulP_i, addP_i, modP_i, w_chk, nxt_nx]
    obtain ⟨c, c1, c2, ec⟩ := abc_at ((first + leap * k) % 26) (Int.emod_nonneg _ (by omega)) (Int.emod_lt_of_pos _ (by omega))
    refine ⟨by omega, by omega, ?_⟩
    rw [w_ixs]
    refine ⟨abc_len, c, ec, ?_⟩
    have k3 : 0 ≤ k % 3 := Int.emod_nonneg _ (by omega)
    have k4 : k % 3 < 3 := Int.emod_lt_of_pos _ (by omega)
    have k5 : 0 ≤ tail * (k % 3) ∧ tail * (k % 3) ≤ 2 := by
      have : tail = 0 ∨ tail = 1 := by omega
      rcases this with rfl | rfl
      · simp
      · omega
    obtain ⟨u1, u2⟩ := len_cut base spot s0 (by omega)
    have hzl : ("z" : Str).length = 1 := by decide
    have hc1 : (⟨#[c]⟩ : Str).length = 1 := rfl
    simp only [w_sdrop, w_meth, w_bin, w_slcE, w_partN, w_partE, isI_i, w_aCons, w_aNil, var_zero, var_succ, w_ret, cst_eq, rd1_p, rd2_p, slcP_s, addP_s, mulP_s, mulP_i, modP_i, w_chk, w_appc, isTyD, p7.get, len_app, u1, u2, hzl, hc1, len_mul]
    refine ⟨rfl, by omega, by omega, by omega, by omega, by omega, by omega, by omega, by omega, ?_⟩
    refine ⟨_, rfl, by simp only [List.length_map]; omega, zs ++ [cutStr base none (some spot) ++ ⟨#[c]⟩ ++ cutStr base (some spot) none ++ strMul "z" (tail * (k % 3))], _, _, by simp only [List.length_append, List.length_cons, List.length_nil]; omega, ?_, fun d hd => gd d (List.mem_cons_of_mem _ hd), ?_, rfl⟩
    · intro z hz
      rcases List.mem_append.mp hz with hz | hz
      · exact gz z hz
      · rw [List.mem_singleton] at hz
        subst hz
        refine ⟨by simp only [len_app, u1, u2, len_mul, hc1]; omega, by simp only [len_app, u1, u2, len_mul, hc1]; omega, lows_app (lows_app (lows_app (lows_cut _ _ e6) ?_) (lows_cut _ _ e6)) (lows_mul _)⟩
        intro x hx
        have : x = c := by simpa using hx
        subst this
        exact ⟨c1, c2⟩
    · have := p7.put (.lst (((zs ++ [cutStr base none (some spot) ++ ⟨#[c]⟩ ++ cutStr base (some spot) none ++ strMul "z" (tail * (k % 3))]).map PyData.str).map .p))
      simpa only [List.map_append, List.map_cons, List.map_nil] using this
  · intro d hd
    simp only [rngL, List.mem_map, List.mem_range] at hd
    obtain ⟨i, hi, rfl⟩ := hd
    exact ⟨_, by omega, by omega, rfl⟩
end G
/-! what the plain laws share: repr's bounds, picks, the pen's beginning, cells left behind -/
namespace G
open MP
open PySem (PyData Str sizeLine)
def NX (d w : Nat) (x : PyData) : Prop := x.showable = true ∧ x.leavesShort 64 = true ∧ x.depth ≤ d ∧ x.weight ≤ w
theorem NX.le {d w d' w' : Nat} {x : PyData} (h : NX d w x) (e1 : d ≤ d') (e2 : w ≤ w') : NX d' w' x := ⟨h.1, h.2.1, Nat.le_trans h.2.2.1 e1, Nat.le_trans h.2.2.2 e2⟩
def wsum : List Nat → Nat
  | [] => 0
  | w :: ws => w + 1 + wsum ws
inductive NXs (d : Nat) : List Nat → List PyData → Prop
  | nil : NXs d [] []
  | cons {w ws x xs} : NX d w x → NXs d ws xs → NXs d (w :: ws) (x :: xs)
theorem NXs.all {d : Nat} {ws : List Nat} {xs : List PyData} (h : NXs d ws xs) : PyData.showableAll xs = true ∧ PyData.leavesShortAll 64 xs = true ∧ PyData.depthAll xs ≤ d ∧ PyData.weightAll xs ≤ wsum ws := by
  induction h with
  | nil => exact ⟨rfl, rfl, Nat.zero_le _, Nat.zero_le _⟩
  | cons h _ ih =>
    obtain ⟨h1, h2, h3, h4⟩ := h
    obtain ⟨g1, g2, g3, g4⟩ := ih
    refine ⟨by simp [PyData.showableAll, h1, g1], by simp [PyData.leavesShortAll, h2, g2], by simp only [PyData.depthAll]; omega, ?_⟩
    simp only [PyData.weightAll, wsum]
    omega
theorem NXs.tup {d : Nat} {ws : List Nat} {xs : List PyData} (h : NXs d ws xs) : NX (d + 1) (wsum ws) (.tuple xs) := by
  obtain ⟨g1, g2, g3, g4⟩ := h.all
  exact ⟨by simpa only [PyData.showable] using g1, by simpa only [PyData.leavesShort] using g2, by simp only [PyData.depth]; omega, by simpa only [PyData.weight] using g4⟩
theorem NXs.lst {d : Nat} {ws : List Nat} {xs : List PyData} (h : NXs d ws xs) : NX (d + 1) (wsum ws) (.list xs) := by
  obtain ⟨g1, g2, g3, g4⟩ := h.all
  exact ⟨by simpa only [PyData.showable] using g1, by simpa only [PyData.leavesShort] using g2, by simp only [PyData.depth]; omega, by simpa only [PyData.weight] using g4⟩
theorem nxs_same {d w : Nat} : ∀ {xs : List PyData}, (∀ x ∈ xs, NX d w x) → ∃ ws, NXs d ws xs ∧ wsum ws = xs.length * (w + 1)
  | [], _ => ⟨[], .nil, by simp [wsum]⟩
  | x :: xs, h => by
    obtain ⟨ws, g, e⟩ := nxs_same fun y hy => h y (List.mem_cons_of_mem _ hy)
    refine ⟨w :: ws, .cons (h x (List.mem_cons_self ..)) g, ?_⟩
    simp only [wsum, e, List.length_cons, Nat.add_mul, Nat.one_mul]
    omega
theorem nx_lst {d w : Nat} {xs : List PyData} (h : ∀ x ∈ xs, NX d w x) : NX (d + 1) (xs.length * (w + 1)) (.list xs) := by
  obtain ⟨ws, g, e⟩ := nxs_same h
  exact e ▸ g.lst
theorem nx_int {i : Int} (h : i.natAbs < 10 ^ 12) : NX 0 50 (.int i) := by
  refine ⟨?_, ?_, Nat.le_refl _, ?_⟩
  · simp only [PyData.showable, decide_eq_true_eq]
    by_cases z : i.natAbs = 0
    · rw [z]; decide
    · exact Nat.lt_of_lt_of_le ((Nat.log2_lt z).mpr (Nat.lt_of_lt_of_le h (by decide : 10 ^ 12 ≤ 2 ^ 48))) (by decide)
  · simp only [PyData.leavesShort, decide_eq_true_eq]
    exact Nat.le_trans (PyData.shown_int_le h) (by decide)
  · simp only [PyData.weight]
    split
    · omega
    · rename_i z
      have z' : i.natAbs ≠ 0 := by
        intro e; apply z; rw [Int.natAbs_eq_zero] at e; rw [e]; rfl
      have := (Nat.log2_lt z').mpr (Nat.lt_of_lt_of_le h (by decide : 10 ^ 12 ≤ 2 ^ 48))
      omega
theorem nx_str {z : Str} {n : Nat} (h : z.length ≤ n) (hc : ∀ c ∈ z.cps.toList, c ≤ 122) : NX 0 n (.str z) := by
  refine ⟨rfl, ?_, Nat.le_refl _, ?_⟩
  · simp only [PyData.leavesShort, List.all_eq_true, decide_eq_true_eq]
    intro c hm
    have := hc c hm
    omega
  · simp only [PyData.weight]; exact h
theorem okShow_nx {x : PyData} {d w : Nat} (h : NX d w x) (hd : d ≤ 60) (hw : w ≤ 100000) (hl : x.hasDict = false) : okShow x := by
  refine ⟨h.1, ?_, by have := h.2.2.1; omega, fun q => by rw [hl] at q; cases q⟩
  have h1 := PyData.shown_le 64 (by decide) x h.2.1
  have h2 := h.2.2.2
  have hL : (10000000 : Nat) ≤ sizeLine := by decide
  have : (64 + 2) * x.weight ≤ 66 * 100000 := Nat.mul_le_mul (by omega) (by omega)
  omega
/-! picks -/
theorem pick3 {a b c : PyData} {i : Int} (h0 : 0 ≤ i) (h1 : i < 3) (P : PyData → Prop) (pa : P a) (pb : P b) (pc : P c) : ∃ x, P x ∧ L2.atI [a, b, c] i = some x := by
  have : i = 0 ∨ i = 1 ∨ i = 2 := by omega
  rcases this with rfl | rfl | rfl
  · exact ⟨a, pa, atI_0 _ _⟩
  · exact ⟨b, pb, atI_1 _ _ _⟩
  · exact ⟨c, pc, atI_2 _ _ _ _⟩
theorem pick_all {xs : List PyData} {i : Int} (h0 : 0 ≤ i) (h1 : i < xs.length) (P : PyData → Prop) (p : ∀ x ∈ xs, P x) : ∃ x, P x ∧ L2.atI xs i = some x := by
  obtain ⟨x, hx, e⟩ := atI_lt xs i h0 h1
  exact ⟨x, p x hx, e⟩
theorem leave0 {h : Hm} {x : PyData} {Q : D → Hm → Prop} (q : ∀ h', Q (.p x) h') : Wr (leave 0 (.p x) h) Q := by
  unfold leave
  split
  · exact wr_ok.mpr (q _)
  · rw [List.take_zero, if_pos (by rfl)]
    exact wr_ok.mpr (q _)
/-- cells left behind: lists of data -/
def Gr (rest : Hm) : Prop := ∀ c ∈ rest, ∃ xs : List PyData, c = .lst (xs.map .p)
theorem lowDs_p (k : Nat) : ∀ xs : List PyData, lowDs k (xs.map D.p) = true
  | [] => rfl
  | x :: xs => by simp [lowDs, lowD, lowDs_p k xs]
theorem Gr.low {rest : Hm} (g : Gr rest) (k : Nat) : low k rest = true := by
  simp only [MP.low, List.all_eq_true]
  intro c hc
  obtain ⟨xs, rfl⟩ := g c hc
  simp only [lowC, lowDs_p]
theorem Gr.nil : Gr [] := fun _ h => by cases h
theorem Gr.add {rest : Hm} (g : Gr rest) (xs : List PyData) : Gr (rest ++ [.lst (xs.map .p)]) := fun c hc => by
  rcases List.mem_append.mp hc with h | h
  · exact g c h
  · rw [List.mem_singleton] at h; exact ⟨xs, h⟩
theorem leave_pen {n : Int} {rest h : Hm} {x : PyData} {k : Nat} {Q : D → Hm → Prop} (p : Pen n rest h) (e : rest.length + 1 = k) : Wr (leave k (.p x) h) Q ↔ Q (.p x) h := leave_same (by rw [p.len]; exact e)
theorem pen_w {ns : List Int} (hn : ns.length ≤ 63) {Q : D → Hm → Prop} (q : ∀ h', Pen 0 [] h' → Q (.cell 0) h') : W (F0_law_pen [.p (.list (ns.map .int))]) [] Q := by
  unfold F0_law_pen
  rw [w_fun]
  have hc : cutP (ns.map PyData.int) none (some 63) = ns.map .int := by
    simp only [cutP, HT.sIx_none, List.length_map, List.drop_zero, Nat.sub_zero]
    rw [show (63 : Int) = ((63 : Nat) : Int) from rfl, HT.sIx_nat, Nat.min_eq_right hn]
    exact List.take_of_length_le (by simp)
  have hL : (2000 : Nat) ≤ sizeLine := by decide
  have e : cmpL (gNm 1) yesT (var 1) [some (.p (.list (ns.map .int))), none] ((ns.map .int).map D.p) [] = .ok (ns.map fun i => .p (.int i)) [] := by
    have := cmpL_map (g := gNm 1) (tt := yesT) (te := var 1) (μ := [some (.p (.list (ns.map .int))), none]) (h := []) (fun x => D.p x) (fun _ => true) (fun x => .p x) (ns.map PyData.int) fun c _ => ⟨_, rfl, rfl, fun _ => rfl⟩
    rw [List.filter_eq_self.mpr fun _ _ => rfl, List.map_map] at this
    rw [List.map_map]
    exact this
  simp [B_law_pen, w_cmpE, hc, wipeE]
  have l63 : ns.length ≤ sizeLine := by omega
  have l3 : (3 : Nat) ≤ sizeLine := by omega
  rw [List.map_map] at e
  rw [w_of e, plain_mapf]
  simp [l63, l3, leaveK_eq]
  exact q _ ⟨ns, 0, 0, hn, by decide, by decide, by decide, rfl⟩
end G
/-! data that can be shown, compared, sorted -/
namespace G
open MP
open PySem (PyData Str sizeLine)
open PySem.PyData (strOk)
theorem ok_add (a b : Str) : strOk (a ++ b) = (strOk a && strOk b) := by
  show (a.cps ++ b.cps).all _ = _
  rw [Array.all_append]
  rfl
theorem ok_of (s : String) : strOk (PySem.Str.ofString s) = true := by
  unfold strOk
  rw [← Array.all_toList, PyProof.Rows.signs_ofString, List.all_eq_true]
  intro c hc
  obtain ⟨ch, _, rfl⟩ := List.mem_map.mp hc
  have := ch.valid
  refine decide_eq_true ?_
  rcases this with h | ⟨_, h⟩
  · exact Nat.lt_trans h (by decide)
  · exact h
def Ok (d w : Nat) (x : PyData) : Prop := NX d w x ∧ x.canLay0 = true ∧ x.hasDict = false
def okB (d w : Nat) (x : PyData) : Bool := x.showable && x.leavesShort 64 && decide (x.depth ≤ d) && decide (x.weight ≤ w) && x.canLay0 && !x.hasDict
theorem okB_ok {d w : Nat} {x : PyData} (h : okB d w x = true) : Ok d w x := by
  simp only [okB, Bool.and_eq_true, decide_eq_true_eq, Bool.not_eq_true'] at h
  obtain ⟨⟨⟨⟨⟨a, b⟩, c⟩, e⟩, f⟩, g⟩ := h
  exact ⟨⟨a, b, c, e⟩, f, g⟩
theorem Ok.le {d w d' w' : Nat} {x : PyData} (h : Ok d w x) (e1 : d ≤ d') (e2 : w ≤ w') : Ok d' w' x := ⟨h.1.le e1 e2, h.2⟩
theorem ok_all : ∀ {xs : List PyData} {d w : Nat}, (∀ x ∈ xs, Ok d w x) → PyData.canLayAll0 xs = true ∧ PyData.hasDictAll xs = false
  | [], _, _, _ => ⟨rfl, rfl⟩
  | x :: xs, d, w, h => by
    obtain ⟨g1, g2⟩ := ok_all fun y hy => h y (List.mem_cons_of_mem _ hy)
    obtain ⟨_, h2, h3⟩ := h x (List.mem_cons_self ..)
    simp [PyData.canLayAll0, PyData.hasDictAll, h2, h3, g1, g2]
theorem Ok.tup {d w n : Nat} {xs : List PyData} (h : ∀ x ∈ xs, Ok d w x) (hn : xs.length ≤ n) : Ok (d + 1) (n * (w + 1)) (.tuple xs) := by
  obtain ⟨ws, g, e⟩ := nxs_same fun x hx => (h x hx).1
  obtain ⟨g1, g2⟩ := ok_all h
  refine ⟨g.tup.le (Nat.le_refl _) (by rw [e]; exact Nat.mul_le_mul_right _ hn), g1, g2⟩
theorem Ok.lst {d w n : Nat} {xs : List PyData} (h : ∀ x ∈ xs, Ok d w x) (hn : xs.length ≤ n) : Ok (d + 1) (n * (w + 1)) (.list xs) := by
  obtain ⟨ws, g, e⟩ := nxs_same fun x hx => (h x hx).1
  obtain ⟨g1, g2⟩ := ok_all h
  refine ⟨g.lst.le (Nat.le_refl _) (by rw [e]; exact Nat.mul_le_mul_right _ hn), g1, g2⟩
theorem Ok.show_ {d w : Nat} {x : PyData} (h : Ok d w x) (hd : d ≤ 50) (hw : w ≤ 100000) : okShow x := okShow_nx h.1 (by omega) hw h.2.2
theorem Ok.shaped_ {d w : Nat} {x : PyData} (h : Ok d w x) (hd : d ≤ 50) : PySem.SeqAt.shaped x = true := by
  obtain ⟨⟨_, _, h3, _⟩, h4, _⟩ := h
  unfold PySem.SeqAt.shaped
  rw [h4, Bool.true_and]
  exact decide_eq_true (by omega)
mutual
theorem alike_refl : ∀ {x : PyData}, x.canLay0 = true → PySem.W.alike x x = true
  | .none, _ => rfl
  | .bool _, _ => rfl
  | .int _, _ => rfl
  | .str _, _ => rfl
  | .list xs, h => by
    simp only [PySem.W.alike]
    exact alikeAll_refl (by simpa only [PyData.canLay0] using h)
  | .tuple xs, h => by
    simp only [PySem.W.alike]
    exact alikeAll_refl (by simpa only [PyData.canLay0] using h)
  | .dict _, h => by simp [PyData.canLay0] at h
theorem alikeAll_refl : ∀ {xs : List PyData}, PyData.canLayAll0 xs = true → PySem.W.alikeAll xs xs = true
  | [], _ => rfl
  | x :: xs, h => by
    simp only [PyData.canLayAll0, Bool.and_eq_true] at h
    simp only [PySem.W.alikeAll, Bool.and_eq_true]
    exact ⟨alike_refl h.1, alikeAll_refl h.2⟩
end
theorem ok_str {z : Str} {n : Nat} (h : z.length ≤ n) (hc : ∀ c ∈ z.cps.toList, c ≤ 122) : Ok 0 n (.str z) := by
  refine ⟨nx_str h hc, ?_, rfl⟩
  simp only [PyData.canLay0, PyData.strOk]
  rw [← Array.all_toList, List.all_eq_true]
  intro c hm
  exact decide_eq_true (by have := hc c hm; omega)
theorem ok_int {i : Int} (h : i.natAbs < 10 ^ 12) : Ok 0 50 (.int i) := ⟨nx_int h, rfl, rfl⟩
end G
/-! what a dict tells behind a put -/
namespace MP
open PySem (PyData Str sizeLine)
section
variable {κ α : Type} [DecidableEq κ] {dec : PyData → Option κ}
theorem dfind_nil (k : κ) : dfind dec ([] : List (PyData × α)) k = none := rfl
theorem dfind_cons (p : PyData × α) (kvs : List (PyData × α)) (k : κ) : dfind dec (p :: kvs) k = if dec p.1 = some k then some p.2 else dfind dec kvs k := by
  by_cases e : dec p.1 = some k
  · simp [dfind, List.find?_cons, e]
  · simp [dfind, List.find?_cons, e]
theorem dfind_any : ∀ (kvs : List (PyData × α)) (k : κ), (kvs.any fun p => decide (dec p.1 = some k)) = (dfind dec kvs k).isSome
  | [], k => rfl
  | p :: kvs, k => by
    rw [dfind_cons, List.any_cons, dfind_any kvs k]
    by_cases e : dec p.1 = some k
    · simp [e]
    · simp [e]
theorem dfind_map (d : α) (k k' : κ) : ∀ kvs : List (PyData × α), dfind dec (kvs.map fun p => if dec p.1 = some k then (p.1, d) else p) k' = if k' = k then (dfind dec kvs k).map fun _ => d else dfind dec kvs k'
  | [] => by simp [dfind_nil]
  | p :: kvs => by
    rw [List.map_cons, dfind_cons, dfind_cons, dfind_cons, dfind_map d k k' kvs]
    by_cases e : dec p.1 = some k
    · by_cases q : k' = k
      · subst q; simp [e]
      · have q' : ¬ k = k' := fun z => q z.symm
        simp [e, q, q']
    · by_cases q : k' = k
      · subst q; simp [e]
      · simp [e, q]
theorem dfind_app (kvs : List (PyData × α)) (p : PyData × α) (k : κ) : dfind dec (kvs ++ [p]) k = match dfind dec kvs k with
    | some d => some d
    | none => if dec p.1 = some k then some p.2 else none := by
  induction kvs with
  | nil => simp [dfind_cons, dfind_nil]
  | cons x kvs ih =>
    rw [List.cons_append, dfind_cons, dfind_cons, ih]
    by_cases e : dec x.1 = some k
    · simp [e]
    · simp [e]
theorem dfind_put {kvs : List (PyData × α)} {k : κ} {q : PyData} {d : α} (hq : dec q = some k) (k' : κ) : dfind dec (dputL dec kvs k q d) k' = if k' = k then some d else dfind dec kvs k' := by
  unfold dputL
  rw [dfind_any]
  cases e : dfind dec kvs k with
  | some d' =>
    simp only [Option.isSome_some, if_true]
    rw [dfind_map, e]
    rfl
  | none =>
    simp only [Option.isSome_none, Bool.false_eq_true, if_false]
    rw [dfind_app]
    by_cases c : k' = k
    · subst c; simp [e, hq]
    · have c' : ¬ k = k' := fun z => c z.symm
      simp only [hq, Option.some.injEq, c', if_false, c]
      cases dfind dec kvs k' <;> rfl
theorem dput_len (kvs : List (PyData × α)) (k : κ) (q : PyData) (d : α) : (dputL dec kvs k q d).length ≤ kvs.length + 1 := by
  unfold dputL
  split
  · simp
  · simp
end
end MP
/-! cells behind the pen; stamps as things -/
namespace G
open MP
open PySem (PyData Str sizeLine)
/-! cells behind the pen -/
theorem Pen.at_ {n : Int} {rest h : Hm} (p : Pen n rest h) (k : Nat) : h[k + 1]? = rest[k]? := by
  obtain ⟨cs, a, g, h0, h1, h2, h3, rfl⟩ := p
  simp [pn]
theorem Pen.set_ {n : Int} {rest h : Hm} (p : Pen n rest h) (k : Nat) (c : C) : Pen n (rest.set k c) (h.set (k + 1) c) := by
  obtain ⟨cs, a, g, h0, h1, h2, h3, rfl⟩ := p
  exact ⟨cs, a, g, h0, h1, h2, h3, by simp [pn]⟩
theorem Pen.take_ {n : Int} {rest more h : Hm} (p : Pen n (rest ++ more) h) : Pen n rest (h.take (rest.length + 1)) := by
  obtain ⟨cs, a, g, h0, h1, h2, h3, rfl⟩ := p
  exact ⟨cs, a, g, h0, h1, h2, h3, by simp [pn]⟩
/-- leaving with a list's cell behind the entry's -/
theorem leave_cell {n : Int} {rest more h : Hm} {k : Nat} {xs : List PyData} {Q : D → Hm → Prop} (p : Pen n (rest ++ more) h) (hm : more ≠ []) (hk : more[k]? = some (.lst (xs.map .p))) (hl : low (rest.length + 1) rest = true) (q : ∀ h', Pen n rest h' → Q (.p (.list xs)) h') : Wr (leave (rest.length + 1) (.cell (rest.length + k + 1)) h) Q := by
  have p' := p.take_
  have hlen := p.len
  have hm' : 0 < more.length := List.length_pos_iff.mpr hm
  have e2 : frz (rest.length + 1) h (.cell (rest.length + k + 1)) = some (.p (.list xs)) := by
    have e : h[rest.length + k + 1]? = some (.lst (xs.map .p)) := by
      rw [p.at_ (rest.length + k), List.getElem?_append_right (by omega), Nat.add_sub_cancel_left]
      exact hk
    unfold frz
    rw [if_neg (by omega), e]
    simp [plain_map]
  unfold leave
  rw [if_neg (by rw [hlen, List.length_append]; omega), if_pos (p'.low hl), e2]
  exact wr_ok.mpr (q _ p')
/-- leaving with data -/
theorem leave_data {n : Int} {rest more h : Hm} {x : PyData} {Q : D → Hm → Prop} (p : Pen n (rest ++ more) h) (hl : low (rest.length + 1) rest = true) (q : ∀ h', Pen n rest h' → Q (.p x) h') : Wr (leave (rest.length + 1) (.p x) h) Q := by
  have p' := p.take_
  unfold leave
  split
  · rename_i e
    have : h.take (rest.length + 1) = h := by rw [← e]; exact List.take_length
    rw [this] at p'
    exact wr_ok.mpr (q _ p')
  · rw [if_pos (p'.low hl)]
    exact wr_ok.mpr (q _ p')
abbrev St := Int × Str × Int
def stP (s : St) : PyData := .tuple [.int s.1, .str s.2.1, .int s.2.2]
end G
/-! the stamps that the laws draw -/
namespace G
open MP
open PySem (PyData Str sizeLine)
/-- a drawn stamp, its hand one of zs, its number at most m -/
def IsS (zs : List Str) (m : Int) (s : St) : Prop := 0 ≤ s.1 ∧ s.1 ≤ 1000000 ∧ s.2.1 ∈ zs ∧ 0 ≤ s.2.2 ∧ s.2.2 ≤ m
/-- no two of one hand and number -/
def Apart (sts : List St) : Prop := sts.Pairwise fun a b => ¬ (a.2.1 = b.2.1 ∧ a.2.2 = b.2.2)
def DInv (kvs : List (PyData × D)) (sts : List St) (m : Int) : Prop := kvs.length ≤ sts.length ∧ ∀ z : Str, match dfind toKey kvs (.inr z) with
  | none => ∀ s ∈ sts, s.2.1 ≠ z
  | some d => ∃ t n : Int, d = .p (.tuple [.int t, .int n]) ∧ 0 ≤ t ∧ t ≤ 1000000 ∧ 0 ≤ n ∧ n ≤ m ∧ ∀ s ∈ sts, s.2.1 = z → s.2.2 ≤ n
section
variable {n : Int} {rest h : Hm} {Q : D → Hm → Prop}
theorem stamps_w {zs : List Str} {many : Int} (p : Pen n rest h) (hn : n ≤ 8000000) (hm : 0 ≤ many ∧ many ≤ 40) (hz : 1 ≤ zs.length ∧ zs.length ≤ 6) (hl : low (rest.length + 1) rest = true)
    (hq : ∀ (sts : List St) h', (sts.length : Int) = many → (∀ s ∈ sts, IsS zs (2 * many) s) → Apart sts → Pen (n + 4 * many + 1) rest h' → Q (.p (.list (sts.map stP))) h') : W (F0_law_stamps [.cell 0, .p (.list (zs.map .str)), .p (.int many)]) h Q := by
  unfold F0_law_stamps
  rw [w_fun]
  have hL : (2000 : Nat) ≤ sizeLine := by decide
  have l3 : (3 : Nat) ≤ sizeLine := by omega
  have l2 : (2 : Nat) ≤ sizeLine := by omega
  have l4 : (4 : Nat) ≤ sizeLine := by omega
  simp [B_law_stamps, l3]
  refine pen_take p (by omega) (by decide) fun i0 h1 a0 a1 p1 => ?_
  obtain ⟨x, ⟨clk, rfl, c0, c1⟩, ex⟩ := pick3 (a := .int 0) (b := .int 9) (c := .int 999910) a0 a1 (fun x => ∃ t : Int, x = .int t ∧ 0 ≤ t ∧ t ≤ 999910) ⟨_, rfl, by decide, by decide⟩ ⟨_, rfl, by decide, by decide⟩ ⟨_, rfl, by decide, by decide⟩
  simp [ex, w_for]
  refine ⟨by omega, ?_⟩
  have e1 := p1.len
  rw [e1]
  refine w_forI (fun ds μ h => ∃ (sts : List St) (kvs : List (PyData × D)) (c : Int) (o6 o7 o8 o9 o10 : Option D), (sts.length : Int) + ds.length = many ∧ (∀ s ∈ sts, IsS zs (2 * sts.length) s) ∧ Apart sts ∧ DInv kvs sts (2 * sts.length) ∧ 0 ≤ c ∧ c ≤ 999910 + 2 * sts.length ∧
    Pen (n + 1 + 4 * sts.length) (rest ++ [.dct false kvs, .lst ((sts.map stP).map .p)]) h ∧ μ = [some (.cell 0), some (.p (.list (zs.map .str))), some (.p (.int many)), some (.p (.int c)), some (.cell (rest.length + 1)), some (.cell (rest.length + 1 + 1)), o6, o7, o8, o9, o10]) ?_ ?_ _ _ _ ⟨[], [], clk, none, none, none, none, none, ?_, ?_, ?_, ?_, c0, by simpa using c1, ?_, rfl⟩
  · rintro μ h ⟨sts, kvs, c, o6, o7, o8, o9, o10, hs, gs, ap, dv, _, _, p2, rfl⟩
    simp only [List.length_nil] at hs
    simp only [nxt_nx, w_sret, var_zero, var_succ, w_ret, fin_rt]
    rw [p.len]
    refine leave_cell (k := 1) p2 (by simp) rfl hl fun h' p3 => ?_
    have em : (sts.length : Int) = many := by omega
    exact hq sts h' em (fun s hs => by have := gs s hs; rwa [em] at this) ap (p3.le (by omega))
  · rintro d ds μ h ⟨sts, kvs, c, o6, o7, o8, o9, o10, hs, gs, ap, dv, cl, ch, p2, rfl⟩
    simp only [List.length_cons] at hs
    refine ⟨_, rfl, ?_⟩
    have q0 := p2.at_ rest.length
    have q1 := p2.at_ (rest.length + 1)
    rw [List.getElem?_append_right (Nat.le_refl _), Nat.sub_self] at q0
    rw [List.getElem?_append_right (by omega), Nat.add_sub_cancel_left] at q1
    simp
    refine pen_take p2 (by omega) (by omega) fun i1 h2 b0 b1 p3 => ?_
    obtain ⟨w, ⟨z, hz', rfl⟩, ez⟩ := pick_all (xs := zs.map PyData.str) b0 (by simpa using b1) (fun x => ∃ z, z ∈ zs ∧ x = .str z) (by
      intro x hx
      obtain ⟨z, hz, rfl⟩ := List.mem_map.mp hx
      exact ⟨z, hz, rfl⟩)
    simp [ez, l4]
    refine pen_take p3 (by omega) (by decide) fun i2 h3 d0 d1 p4 => ?_
    obtain ⟨w, ⟨e, rfl, e0, e1'⟩, ew⟩ := pick_all (xs := [.int 0, .int 0, .int 1, .int 2]) d0 d1 (fun x => ∃ t : Int, x = .int t ∧ 0 ≤ t ∧ t ≤ 2) (by
      intro x hx
      simp only [List.mem_cons, List.not_mem_nil, or_false] at hx
      rcases hx with rfl | rfl | rfl | rfl
      all_goals exact ⟨_, rfl, by decide, by decide⟩)
    have q4 : h3[rest.length + 1]? = some (.dct false kvs) := by
      rw [p4.at_ rest.length, List.getElem?_append_right (Nat.le_refl _), Nat.sub_self]; rfl
    obtain ⟨t, nn, elast, t0, t1, nn0, nn1, nlt⟩ : ∃ t nn : Int, (dfind toKey kvs (.inr z)).getD (.p (.tuple [.int 0, .int (-1)])) = .p (.tuple [.int t, .int nn]) ∧ 0 ≤ t ∧ t ≤ 1000000 ∧ -1 ≤ nn ∧ nn ≤ 2 * sts.length ∧ ∀ s ∈ sts, s.2.1 = z → s.2.2 ≤ nn := by
      have := dv.2 z
      cases ef : dfind toKey kvs (.inr z) with
      | none =>
        rw [ef] at this
        exact ⟨0, -1, rfl, by decide, by decide, by decide, by omega, fun s hs e => absurd e (this s hs)⟩
      | some d =>
        rw [ef] at this
        obtain ⟨t, n, rfl, a, b, c, d, e⟩ := this
        exact ⟨t, n, rfl, a, b, by omega, d, e⟩
    have ekl : dlook h3 (.cell (rest.length + 1)) (.str z) = some (dfind toKey kvs (.inr z)) := by rw [dlook_cell q4]; rfl
    simp [ew, isTyD, q4, l2, l3, ekl, tupD, elast, gUn, itemsS, gCn, gNm, gNl]
    refine pen_take p4 (by omega) (by decide) fun i3 h4 f0 f1 p5 => ?_
    simp
    refine pen_take p5 (by omega) (by decide) fun i4 h5 g0 g1 p6 => ?_
    simp
    refine ⟨.inr ⟨rfl, rfl⟩, ?_⟩
    obtain ⟨nb, enb, nb0, nb1⟩ : ∃ nb : Int, (nn + 1 + if (PyData.int i4).eqv (PyData.int 0) = true then 1 else 0) = nb ∧ nn + 1 ≤ nb ∧ nb ≤ nn + 2 := ⟨_, rfl, by split <;> omega, by split <;> omega⟩
    rw [enb]
    obtain ⟨tm, etm, tm0, tm1⟩ : ∃ tm : Int, mxI (mxI t (c + e - i3)) 0 = tm ∧ 0 ≤ tm ∧ tm ≤ 1000000 := ⟨_, rfl, le_mx.mpr (.inr (Int.le_refl _)), mx_le.mpr ⟨mx_le.mpr ⟨t1, by omega⟩, by decide⟩⟩
    rw [etm]
    have q5 : h5[rest.length + 1]? = some (.dct false kvs) := by
      rw [p6.at_ rest.length, List.getElem?_append_right (Nat.le_refl _), Nat.sub_self]; rfl
    have hk : toKey (.str z) = some (.inr z) := rfl
    rw [w_dputK q5 hk (by have := dv.1; omega)]
    have p7 := p6.set_ rest.length (.dct false (dputL toKey kvs (.inr z) (.str z) (D.p (.tuple [.int tm, .int nb]))))
    have es : (rest ++ [C.dct false kvs, C.lst ((sts.map stP).map .p)]).set rest.length (.dct false (dputL toKey kvs (.inr z) (.str z) (D.p (.tuple [.int tm, .int nb])))) = rest ++ [.dct false (dputL toKey kvs (.inr z) (.str z) (D.p (.tuple [.int tm, .int nb]))), .lst ((sts.map stP).map .p)] := by
      rw [List.set_append_right _ _ (Nat.le_refl _), Nat.sub_self]; rfl
    rw [es] at p7
    have q7 := p7.at_ (rest.length + 1)
    rw [List.getElem?_append_right (by omega), Nat.add_sub_cancel_left] at q7
    have p8 := p7.set_ (rest.length + 1) (.lst ((sts.map stP).map .p ++ [D.p (.tuple [.int tm, .str z, .int nb])]))
    have es2 : (rest ++ [C.dct false (dputL toKey kvs (.inr z) (.str z) (D.p (.tuple [.int tm, .int nb]))), C.lst ((sts.map stP).map .p)]).set (rest.length + 1) (.lst ((sts.map stP).map .p ++ [D.p (.tuple [.int tm, .str z, .int nb])])) = rest ++ [.dct false (dputL toKey kvs (.inr z) (.str z) (D.p (.tuple [.int tm, .int nb]))), .lst ((sts.map stP).map .p ++ [D.p (.tuple [.int tm, .str z, .int nb])])] := by
      rw [List.set_append_right _ _ (by omega), Nat.add_sub_cancel_left]; rfl
    rw [es2] at p8
    have q8 : (h5.set (rest.length + 1) (.dct false (dputL toKey kvs (.inr z) (.str z) (D.p (.tuple [.int tm, .int nb])))))[rest.length + 1 + 1]? = some (.lst ((sts.map stP).map .p)) := q7
    rw [q8]
    have hn' : ∀ s ∈ sts ++ [(tm, z, nb)], IsS zs (2 * (sts.length + 1 : Nat)) s := by
      intro s hs'
      rcases List.mem_append.mp hs' with hs' | hs'
      · obtain ⟨u1, u2, u3, u4, u5⟩ := gs s hs'
        exact ⟨u1, u2, u3, u4, by omega⟩
      · rw [List.mem_singleton] at hs'
        subst hs'
        exact ⟨tm0, tm1, hz', by show (0 : Int) ≤ nb; omega, by show nb ≤ _; omega⟩
    refine ⟨rfl, _, rfl, by simp only [List.length_map]; omega, sts ++ [(tm, z, nb)], ?_, ?_, ?_, dputL toKey kvs (.inr z) (.str z) (D.p (.tuple [.int tm, .int nb])), ?_, c + e, by omega, ?_, ?_, rfl⟩
    · simp only [List.length_append, List.length_cons, List.length_nil]; omega
    · intro a a1 b hs'
      have := hn' _ hs'
      simpa only [List.length_append, List.length_cons, List.length_nil, Nat.zero_add] using this
    · refine List.pairwise_append.mpr ⟨ap, List.pairwise_singleton _ _, fun a ha b hb => ?_⟩
      rw [List.mem_singleton] at hb
      subst hb
      rintro ⟨r1, r2⟩
      have := nlt a ha r1
      simp only at r2
      omega
    · refine ⟨by have := dput_len (dec := toKey) kvs (.inr z) (.str z) (D.p (.tuple [.int tm, .int nb])); simp only [List.length_append, List.length_cons, List.length_nil]; have := dv.1; omega, fun z' => ?_⟩
      rw [dfind_put hk]
      by_cases ez' : z' = z
      · subst ez'
        rw [if_pos rfl]
        refine ⟨tm, nb, rfl, tm0, tm1, by omega, by simp only [List.length_append, List.length_cons, List.length_nil]; omega, fun s hs' e => ?_⟩
        rcases List.mem_append.mp hs' with hs' | hs'
        · have := nlt s hs' e; omega
        · rw [List.mem_singleton] at hs'; subst hs'; exact Int.le_refl _
      · rw [if_neg fun q => ez' (Sum.inr.inj q)]
        have := dv.2 z'
        cases ef : dfind toKey kvs (.inr z') with
        | none =>
          rw [ef] at this
          intro s hs'
          rcases List.mem_append.mp hs' with hs' | hs'
          · exact this s hs'
          · rw [List.mem_singleton] at hs'; subst hs'; exact fun q => ez' q.symm
        | some d =>
          rw [ef] at this
          obtain ⟨t, n, rfl, a, b, c, d, e⟩ := this
          refine ⟨t, n, rfl, a, b, c, by simp only [List.length_append, List.length_cons, List.length_nil]; omega, fun s hs' e' => ?_⟩
          rcases List.mem_append.mp hs' with hs' | hs'
          · exact e s hs' e'
          · rw [List.mem_singleton] at hs'; subst hs'; exact absurd e'.symm ez'
    · simp only [List.length_append, List.length_cons, List.length_nil]; omega
    · have : List.map (D.p ∘ stP) (sts ++ [(tm, z, nb)]) = (sts.map stP).map .p ++ [D.p (.tuple [.int tm, .str z, .int nb])] := by
        simp [stP]
      rw [this]
      refine Pen.le (n := n + 1 + 4 * sts.length + 4) ?_ (by simp only [List.length_append, List.length_cons, List.length_nil]; omega)
      have := p8.le (m := n + 1 + 4 * sts.length + 4) (by omega)
      exact this
  · simp [rngL]; omega
  · intro s hs; cases hs
  · exact List.Pairwise.nil
  · exact ⟨Nat.le_refl _, fun z => by simp [dfind_nil]⟩
  · have := (p1.add (.dct false [])).add (.lst [])
    simpa using this
end
end G
/-! stamps in order -/
namespace G
open MP
open PySem (PyData Str sizeLine)
theorem eqv_str (a b : Str) : PyData.eqv (.str a) (.str b) = decide (a = b) := by
  rw [PyData.eqv]
  rw [Bool.eq_iff_iff, beq_iff_eq, decide_eq_true_eq]
theorem str_ext {x y : Str} (h : x.cps.toList = y.cps.toList) : x = y := PySem.W.str_of_cps h
def zLt (a b : Str) : Prop := a.cps.toList < b.cps.toList
instance (a b : Str) : Decidable (zLt a b) := inferInstanceAs (Decidable (_ < _))
theorem zLt_irrefl (a : Str) : ¬ zLt a a := List.lt_irrefl _
theorem zLt_trans {a b c : Str} (h : zLt a b) (g : zLt b c) : zLt a c := List.lt_trans h g
theorem zLt_total (a b : Str) : zLt a b ∨ a = b ∨ zLt b a := by
  unfold zLt
  by_cases h : a.cps.toList < b.cps.toList
  · exact .inl h
  · by_cases g : b.cps.toList < a.cps.toList
    · exact .inr (.inr g)
    · exact .inr (.inl (str_ext (List.le_antisymm (List.not_lt.mp g) (List.not_lt.mp h))))
def stLt (a b : St) : Prop := a.1 < b.1 ∨ (a.1 = b.1 ∧ (zLt a.2.1 b.2.1 ∨ (a.2.1 = b.2.1 ∧ a.2.2 < b.2.2)))
instance (a b : St) : Decidable (stLt a b) := inferInstanceAs (Decidable (_ ∨ _))
theorem stLt_irrefl (a : St) : ¬ stLt a a := by
  rintro (h | ⟨_, h | ⟨_, h⟩⟩)
  · omega
  · exact zLt_irrefl _ h
  · omega
theorem stLt_trans {a b c : St} (h : stLt a b) (g : stLt b c) : stLt a c := by
  rcases h with h | ⟨e, h⟩
  · rcases g with g | ⟨e', g⟩
    · exact .inl (by omega)
    · exact .inl (by omega)
  · rcases g with g | ⟨e', g⟩
    · exact .inl (by omega)
    · refine .inr ⟨by omega, ?_⟩
      rcases h with h | ⟨e2, h⟩
      · rcases g with g | ⟨e3, g⟩
        · exact .inl (zLt_trans h g)
        · rw [← e3]; exact .inl h
      · rcases g with g | ⟨e3, g⟩
        · rw [e2]; exact .inl g
        · exact .inr ⟨e2.trans e3, by omega⟩
theorem stLt_total (a b : St) : stLt a b ∨ a = b ∨ stLt b a := by
  obtain ⟨t, z, n⟩ := a
  obtain ⟨t', z', n'⟩ := b
  unfold stLt
  simp only
  by_cases h : t < t'
  · exact .inl (.inl h)
  · by_cases g : t' < t
    · exact .inr (.inr (.inl g))
    · have e : t = t' := by omega
      subst e
      rcases zLt_total z z' with q | q | q
      · exact .inl (.inr ⟨rfl, .inl q⟩)
      · subst q
        by_cases h : n < n'
        · exact .inl (.inr ⟨rfl, .inr ⟨rfl, h⟩⟩)
        · by_cases g : n' < n
          · exact .inr (.inr (.inr ⟨rfl, .inr ⟨rfl, g⟩⟩))
          · have e : n = n' := by omega
            subst e
            exact .inr (.inl rfl)
      · exact .inr (.inr (.inr ⟨rfl, .inl q⟩))
theorem alike_st (a b : St) : PySem.W.alike (stP a) (stP b) = true := by simp [stP, PySem.W.alike, PySem.W.alikeAll]
theorem eqv_st (a b : St) : PyData.eqv (stP a) (stP b) = decide (a = b) := by
  obtain ⟨t, z, n⟩ := a
  obtain ⟨t', z', n'⟩ := b
  simp only [stP, PyData.eqv, PyData.eqvAll, Bool.and_true, Prod.mk.injEq]
  rw [Bool.eq_iff_iff]
  simp
theorem stP_inj {a b : St} (h : stP a = stP b) : a = b := by
  obtain ⟨t, z, n⟩ := a
  obtain ⟨t', z', n'⟩ := b
  simp only [stP, PyData.tuple.injEq, List.cons.injEq, PyData.int.injEq, PyData.str.injEq, and_true] at h
  simp [h]
theorem lt_st (a b : St) : PySem.W.dataLt (stP a) (stP b) = decide (stLt a b) := by
  obtain ⟨t, z, n⟩ := a
  obtain ⟨t', z', n'⟩ := b
  simp only [stP]
  rw [PySem.W.dataLt_tuple, PySem.W.dataLt_cons (by rfl), PySem.W.dataLt_cons (by rfl), PySem.W.dataLt_cons (by rfl), PySem.W.dataLt_int, PySem.W.dataLt_str, PySem.W.dataLt_int, eqv_str]
  have e1 : ∀ i j : Int, (PyData.eqv (.int i) (.int j) = true) = (i = j) := fun i j => by simp [PyData.eqv]
  simp only [e1, decide_eq_true_eq]
  have lt_nil : PyProof.Rows.lexLt PyProof.Rows.itemOrd (PySem.W.keyToksAll []) (PySem.W.keyToksAll []) = false := PySem.W.dataLt_self (.tuple [])
  have zirr : ∀ z : Str, ¬ z.cps.toList < z.cps.toList := zLt_irrefl
  unfold stLt zLt
  by_cases a1 : t = t'
  · subst a1
    by_cases a2 : z = z'
    · subst a2
      by_cases a3 : n = n'
      · subst a3; simp [lt_nil, zirr]
      · simp [a3, zirr]
    · simp [a2]
  · simp [a1]
/-! deeds: a stamp and what is done -/
abbrev Dd := St × PyData
def dP (d : Dd) : PyData := .tuple [stP d.1, d.2]
theorem lt_dP {a b : Dd} (h : a.1 ≠ b.1) : PySem.W.dataLt (dP a) (dP b) = decide (stLt a.1 b.1) := by
  unfold dP
  rw [PySem.W.dataLt_tuple, PySem.W.dataLt_cons (alike_st _ _), eqv_st, lt_st]
  simp [h]
def Unlike (ps : List Dd) : Prop := ps.Pairwise fun a b => a.1 ≠ b.1
theorem Unlike.same {ps : List Dd} (h : Unlike ps) {a b : Dd} (ha : a ∈ ps) (hb : b ∈ ps) (e : a.1 = b.1) : a = b := by
  induction ps with
  | nil => cases ha
  | cons p ps ih =>
    obtain ⟨h1, h2⟩ := List.pairwise_cons.mp h
    rcases List.mem_cons.mp ha with ea | ha'
    · rcases List.mem_cons.mp hb with eb | hb'
      · rw [ea, eb]
      · rw [ea] at e; exact absurd e (h1 _ hb')
    · rcases List.mem_cons.mp hb with eb | hb'
      · rw [eb] at e; exact absurd e.symm (h1 _ ha')
      · exact ih h2 ha' hb'
theorem sortOk_dP {ps : List Dd} (u : Unlike ps) (ok : ∀ p ∈ ps, p.2.canLay0 = true ∧ p.2.depth ≤ 50) : SortOk (ps.map dP) := by
  refine ⟨?_, .inl ?_, ?_, ?_⟩
  · intro d hd d' hd'
    obtain ⟨a, ha, rfl⟩ := List.mem_map.mp hd
    obtain ⟨b, hb, rfl⟩ := List.mem_map.mp hd'
    show lexA [_, _] [_, _] = true
    simp only [lexA, alike_st, eqv_st, Bool.true_and]
    by_cases e : a.1 = b.1
    · have := u.same ha hb e
      subst this
      simp [alike_refl (ok a ha).1]
    · simp [e]
  · intro d hd
    obtain ⟨a, ha, rfl⟩ := List.mem_map.mp hd
    exact ⟨_, _, rfl⟩
  · intro d hd d' hd' x r x' r' e e'
    obtain ⟨a, ha, rfl⟩ := List.mem_map.mp hd
    obtain ⟨b, hb, rfl⟩ := List.mem_map.mp hd'
    simp only [dP, PyData.tuple.injEq, List.cons.injEq] at e e'
    rw [← e.1, ← e'.1]
    exact alike_st _ _
  · intro d hd
    obtain ⟨a, ha, rfl⟩ := List.mem_map.mp hd
    have := (ok a ha).2
    simp only [dP, stP, PyData.depth, PyData.depthAll]
    omega
/-- rising -/
def Rising (ps : List Dd) : Prop := ps.Pairwise fun a b => stLt a.1 b.1
theorem Rising.unlike {ps : List Dd} (h : Rising ps) : Unlike ps := by
  refine List.Pairwise.imp ?_ h
  intro a b g e
  rw [e] at g
  exact stLt_irrefl _ g
theorem sortL_dP {ps : List Dd} (u : Unlike ps) : ∃ qs : List Dd, sortL (ps.map dP) = qs.map dP ∧ qs.Perm ps ∧ Rising qs := by
  have le_dP : ∀ a b : Dd, PySem.W.dataLe false id (dP a) (dP b) = !PySem.W.dataLt (dP b) (dP a) := fun a b => by
    rw [PySem.W.dataLe_eq]; rfl
  have hm : sortL (ps.map dP) = (ps.mergeSort fun a b => PySem.W.dataLe false id (dP a) (dP b)).map dP := by
    unfold sortL
    exact (List.map_mergeSort (s := PySem.W.dataLe false id) (r := fun a b => PySem.W.dataLe false id (dP a) (dP b)) (f := dP) fun a _ b _ => rfl).symm
  -- told by stamps alone
  have e1 : (ps.mergeSort fun a b => PySem.W.dataLe false id (dP a) (dP b)) = ps.mergeSort fun a b => decide (¬ stLt b.1 a.1) := by
    have := List.map_mergeSort (r := fun a b : Dd => decide (¬ stLt b.1 a.1)) (s := fun a b => PySem.W.dataLe false id (dP a) (dP b)) (f := fun x : Dd => x) (l := ps) fun a ha b hb => by
      rw [le_dP]
      by_cases e : b.1 = a.1
      · have := u.same hb ha e
        subst this
        have := PySem.W.dataLt_self (dP b)
        rw [this]
        simp [stLt_irrefl]
      · rw [lt_dP e]; simp
    simpa using this.symm
  refine ⟨_, hm, List.mergeSort_perm _ _, ?_⟩
  rw [e1]
  have hp := List.mergeSort_perm ps fun a b => decide (¬ stLt b.1 a.1)
  have hu : Unlike (ps.mergeSort fun a b => decide (¬ stLt b.1 a.1)) := (hp.pairwise_iff fun {a b} h e => h e.symm).mpr u
  have hs := List.pairwise_mergeSort (le := fun a b : Dd => decide (¬ stLt b.1 a.1)) (fun a b c h g => by
    simp only [decide_eq_true_eq] at h g ⊢
    intro q
    rcases stLt_total b.1 c.1 with z | z | z
    · exact h (stLt_trans z q)
    · rw [z] at h; exact h q
    · exact g z) (fun a b => by
    by_cases q : stLt b.1 a.1
    · have : ¬ stLt a.1 b.1 := fun z => stLt_irrefl _ (stLt_trans q z)
      simp [this]
    · simp [q]) ps
  have := hs.and hu
  refine this.imp fun {a b} ⟨h1, h2⟩ => ?_
  simp only [decide_eq_true_eq] at h1
  rcases stLt_total a.1 b.1 with z | z | z
  · exact z
  · exact absurd z h2
  · exact absurd z h1
end G
/-! the logs that the laws draw -/
namespace G
open MP
open PySem (PyData Str sizeLine)
def word8 (z : Str) : Prop := 1 ≤ z.length ∧ z.length ≤ 8 ∧ lows z
/-- a stamp by the document -/
def GSt (s : St) : Prop := 0 ≤ s.1 ∧ s.1 ≤ 1000000 ∧ word8 s.2.1 ∧ 0 ≤ s.2.2 ∧ s.2.2 ≤ 199
def GCol (z : Str) : Prop := ∃ c : Nat, 97 ≤ c ∧ c ≤ 102 ∧ z = ⟨#[c]⟩
def GNum (i : Int) : Prop := i.natAbs < 10 ^ 30
def GCon (x : PyData) : Prop := x = .none ∨ ∃ i, GNum i ∧ x = .tuple [.str "number", .int i]
inductive GWhat (P : St → Prop) (Z : Str → Prop) : PyData → Prop
  | sheet {z : Str} (hz : Z z) : GWhat P Z (.tuple [.str "sheet", .str z])
  | row {s : St} (hs : P s) : GWhat P Z (.tuple [.str "row", stP s, .none])
  | row2 {s s' : St} (hs : P s) (hs' : P s') : GWhat P Z (.tuple [.str "row", stP s, stP s'])
  | strike {s : St} (hs : P s) : GWhat P Z (.tuple [.str "strike", stP s])
  | put {s s' : St} {c : Str} {k : PyData} (hs : P s) (hs' : P s') (hc : GCol c) (hk : GCon k) : GWhat P Z (.tuple [.str "put", stP s, stP s', .str c, k])
  | name {s s' : St} {c z : Str} (hs : P s) (hz : Z z) (hs' : P s') (hc : GCol c) : GWhat P Z (.tuple [.str "name", stP s, .str z, stP s', .str c])
  | fetch {s : St} (hs : P s) : GWhat P Z (.tuple [.str "fetch", stP s])
  | let_ {s s' : St} {c : Str} {l : Int} (hs : P s) (hs' : P s') (hc : c = "" ∨ GCol c) (hl : 0 ≤ l ∧ l ≤ 2) : GWhat P Z (.tuple [.str "let", stP s, .str s'.2.1, .str c, .int l])
  | undo {s : St} (hs : P s) : GWhat P Z (.tuple [.str "undo", stP s])
theorem lows_le {z : Str} (h : lows z) : ∀ c ∈ z.cps.toList, c ≤ 122 := fun c hc => (h c hc).2
theorem ok_word {z : Str} (h : word8 z) : Ok 0 50 (.str z) := (ok_str (n := 50) (by have := h.2.1; omega) (lows_le h.2.2))
theorem ok_st {s : St} (h : GSt s) : Ok 1 153 (stP s) := by
  obtain ⟨h1, h2, h3, h4, h5⟩ := h
  refine Ok.tup (n := 3) (w := 50) (d := 0) ?_ (by simp)
  intro x hx
  simp only [List.mem_cons, List.not_mem_nil, or_false] at hx
  rcases hx with rfl | rfl | rfl
  · exact ok_int (by omega)
  · exact ok_word h3
  · exact ok_int (by omega)
theorem ok_col {c : Str} (h : GCol c) : Ok 0 50 (.str c) := by
  obtain ⟨c, h1, h2, rfl⟩ := h
  refine ok_str (n := 50) (by show 1 ≤ 50; omega) fun k hk => ?_
  have : k = c := by simpa using hk
  omega
theorem shown_int30 {i : Int} (h : i.natAbs < 10 ^ 30) : (PyData.shown (.int i)).length ≤ 31 := by
  have e := PySem.int_text_length_le10 (k := 30) (by decide) h
  show (PySem.Str.ofString (toString i)).length ≤ 31
  rw [PySem.ofString_length]; exact e
theorem ok_num {i : Int} (h : GNum i) : Ok 0 110 (.int i) := by
  unfold GNum at h
  have hb : (10 : Nat) ^ 30 ≤ 2 ^ 100 := by decide
  refine ⟨⟨?_, ?_, Nat.le_refl _, ?_⟩, rfl, rfl⟩
  · simp only [PyData.showable, decide_eq_true_eq]
    by_cases z : i.natAbs = 0
    · rw [z]; decide
    · exact Nat.lt_of_lt_of_le ((Nat.log2_lt z).mpr (Nat.lt_of_lt_of_le h hb)) (by decide)
  · simp only [PyData.leavesShort, decide_eq_true_eq]
    exact Nat.le_trans (shown_int30 h) (by decide)
  · simp only [PyData.weight]
    split
    · omega
    · rename_i z
      have z' : i.natAbs ≠ 0 := by
        intro e; apply z; rw [Int.natAbs_eq_zero] at e; rw [e]; rfl
      have := (Nat.log2_lt z').mpr (Nat.lt_of_lt_of_le h hb)
      omega
theorem ok_lit {s : String} (h : okB 0 50 (.str s) = true) : Ok 0 50 (.str s) := okB_ok h
theorem ok_none : Ok 0 50 .none := okB_ok (by decide +kernel)
theorem ok_con {x : PyData} (h : GCon x) : Ok 1 222 x := by
  rcases h with rfl | ⟨i, h, rfl⟩
  · exact ok_none.le (by decide) (by decide)
  · refine Ok.tup (n := 2) (w := 110) (d := 0) ?_ (by simp)
    intro x hx
    simp only [List.mem_cons, List.not_mem_nil, or_false] at hx
    rcases hx with rfl | rfl
    · exact (okB_ok (d := 0) (w := 50) (by decide +kernel)).le (by decide) (by decide)
    · exact ok_num h
theorem ok_what {P : St → Prop} {Z : Str → Prop} (hP : ∀ s, P s → GSt s) (hZ : ∀ z, Z z → word8 z) {x : PyData} (h : GWhat P Z x) : Ok 2 1200 x := by
  have ST : ∀ {s}, P s → Ok 1 222 (stP s) := fun h => (ok_st (hP _ h)).le (by decide) (by decide)
  have WD : ∀ {z}, Z z → Ok 1 222 (.str z) := fun h => (ok_word (hZ _ h)).le (by decide) (by decide)
  have CO : ∀ {z}, GCol z → Ok 1 222 (.str z) := fun h => (ok_col h).le (by decide) (by decide)
  have LI : ∀ {x}, okB 0 50 x = true → Ok 1 222 x := fun h => (okB_ok h).le (by decide) (by decide)
  have HD : ∀ {s}, P s → Ok 1 222 (.str s.2.1) := fun h => (ok_word (hP _ h).2.2.1).le (by decide) (by decide)
  have go : ∀ {xs : List PyData}, (∀ x ∈ xs, Ok 1 222 x) → xs.length ≤ 5 → Ok 2 1200 (.tuple xs) := fun h e => (Ok.tup (n := 5) h e).le (by decide) (by decide)
  cases h with
  | sheet hz => exact go (by simp only [List.mem_cons, List.not_mem_nil, or_false, forall_eq_or_imp, forall_eq]; exact ⟨LI (by decide +kernel), WD hz⟩) (by simp)
  | row hs => exact go (by simp only [List.mem_cons, List.not_mem_nil, or_false, forall_eq_or_imp, forall_eq]; exact ⟨LI (by decide +kernel), ST hs, LI (by decide +kernel)⟩) (by simp)
  | row2 hs hs' => exact go (by simp only [List.mem_cons, List.not_mem_nil, or_false, forall_eq_or_imp, forall_eq]; exact ⟨LI (by decide +kernel), ST hs, ST hs'⟩) (by simp)
  | strike hs => exact go (by simp only [List.mem_cons, List.not_mem_nil, or_false, forall_eq_or_imp, forall_eq]; exact ⟨LI (by decide +kernel), ST hs⟩) (by simp)
  | put hs hs' hc hk => exact go (by simp only [List.mem_cons, List.not_mem_nil, or_false, forall_eq_or_imp, forall_eq]; exact ⟨LI (by decide +kernel), ST hs, ST hs', CO hc, ok_con hk⟩) (by simp)
  | name hs hz hs' hc => exact go (by simp only [List.mem_cons, List.not_mem_nil, or_false, forall_eq_or_imp, forall_eq]; exact ⟨LI (by decide +kernel), ST hs, WD hz, ST hs', CO hc⟩) (by simp)
  | fetch hs => exact go (by simp only [List.mem_cons, List.not_mem_nil, or_false, forall_eq_or_imp, forall_eq]; exact ⟨LI (by decide +kernel), ST hs⟩) (by simp)
  | let_ hs hs' hc hl =>
    refine go ?_ (by simp)
    simp only [List.mem_cons, List.not_mem_nil, or_false, forall_eq_or_imp, forall_eq]
    refine ⟨LI (by decide +kernel), ST hs, HD hs', ?_, ?_⟩
    · rcases hc with rfl | hc
      · exact LI (by decide +kernel)
      · exact CO hc
    · exact (ok_int (by omega)).le (by decide) (by decide)
  | undo hs => exact go (by simp only [List.mem_cons, List.not_mem_nil, or_false, forall_eq_or_imp, forall_eq]; exact ⟨LI (by decide +kernel), ST hs⟩) (by simp)
theorem abcdef_at (i : Int) (h0 : 0 ≤ i) (h1 : i < 6) : ∃ c : Nat, 97 ≤ c ∧ c ≤ 102 ∧ L2.atI (("abcdef" : Str).cps.toList) i = some c := by
  obtain ⟨k, rfl⟩ := Int.eq_ofNat_of_zero_le h0
  have hk : k < 6 := by omega
  have h : ∀ j : Nat, j < 6 → L2.atI (("abcdef" : Str).cps.toList) (j : Int) = some (97 + j) := by decide +kernel
  exact ⟨97 + k, by omega, by omega, h k hk⟩
theorem abcdef_len : ("abcdef" : Str).length ≤ sizeLine := by decide +kernel
section
variable {n : Int} {rest h : Hm} {Q : D → Hm → Prop}
@[simp] theorem w_st0 {s : St} : W (idxD (.p (stP s)) (.p (.int 0))) h Q ↔ Q (.p (.int s.1)) h := by simp [stP]
@[simp] theorem w_st1 {s : St} : W (idxD (.p (stP s)) (.p (.int 1))) h Q ↔ Q (.p (.str s.2.1)) h := by simp [stP]
@[simp] theorem w_st2 {s : St} : W (idxD (.p (stP s)) (.p (.int 2))) h Q ↔ Q (.p (.int s.2.2)) h := by simp [stP]
@[simp] theorem w_dd0 {d : Dd} : W (idxD (.p (dP d)) (.p (.int 0))) h Q ↔ Q (.p (stP d.1)) h := by simp [dP]
@[simp] theorem w_dd1 {d : Dd} : W (idxD (.p (dP d)) (.p (.int 1))) h Q ↔ Q (.p d.2) h := by simp [dP]
theorem simple_w {sts : List St} {z : Str} (p : Pen n rest h) (hn : n ≤ 9000000) (h0 : sts ≠ []) (hs : sts.length ≤ 1000) (hq : ∀ x h', GWhat (· ∈ sts) (· = z) x → Pen (n + 11) rest h' → Q (.p x) h') : W (F0_law_simple [.cell 0, .p (.list (sts.map stP)), .p (.str z)]) h Q := by
  unfold F0_law_simple
  rw [w_fun]
  have hL : (2000 : Nat) ≤ sizeLine := by decide
  have l5 : (5 : Nat) ≤ sizeLine := by omega
  have l3 : (3 : Nat) ≤ sizeLine := by omega
  have l2 : (2 : Nat) ≤ sizeLine := by omega
  have l6 : (6 : Nat) ≤ sizeLine := by omega
  have l8 : (8 : Nat) ≤ sizeLine := by omega
  have hl : 0 < sts.length := List.length_pos_iff.mpr h0
  have pick : ∀ {i : Int}, 0 ≤ i → i < sts.length → ∃ s, s ∈ sts ∧ L2.atI (sts.map stP) i = some (stP s) := fun {i} a b => by
    obtain ⟨x, hx, e⟩ := atI_lt (sts.map stP) i a (by simpa using b)
    obtain ⟨s, hs, rfl⟩ := List.mem_map.mp hx
    exact ⟨s, hs, e⟩
  simp [B_law_simple]
  refine pen_take p (by omega) (by omega) fun i0 h1 a0 a1 p1 => ?_
  obtain ⟨s, ms, es⟩ := pick a0 a1
  simp [es]
  refine pen_take p1 (by omega) (by omega) fun i1 h2 b0 b1 p2 => ?_
  obtain ⟨s', ms', es'⟩ := pick b0 b1
  simp [es']
  refine pen_take p2 (by omega) (by decide) fun i2 h3 c0 c1 p3 => ?_
  obtain ⟨c, hc0, hc1, ec⟩ := abcdef_at i2 c0 c1
  have hcol : GCol ⟨#[c]⟩ := ⟨c, hc0, hc1, rfl⟩
  simp [ec, abcdef_len, l5]
  refine pen_take p3 (by omega) (by decide) fun i3 h4 d0 d1 p4 => ?_
  simp [l5]
  refine pen_take p4 (by omega) (by decide) fun i4 h5 e0 e1 p5 => ?_
  obtain ⟨x, ⟨k, rfl, hk⟩, ek⟩ := pick_all (xs := [.int 0, .int (-5), .int 999999999999999999999999999999, .int (-999999999999999999999999999999), .int i3]) e0 e1 (fun x => ∃ k, x = .int k ∧ GNum k) (by
    intro x hx
    simp only [List.mem_cons, List.not_mem_nil, or_false] at hx
    rcases hx with rfl | rfl | rfl | rfl | rfl
    · exact ⟨_, rfl, by unfold GNum; decide⟩
    · exact ⟨_, rfl, by unfold GNum; decide⟩
    · exact ⟨_, rfl, by unfold GNum; decide⟩
    · exact ⟨_, rfl, by unfold GNum; decide⟩
    · exact ⟨_, rfl, by unfold GNum; omega⟩)
  simp [ek, l2, tupD]
  refine pen_take p5 (by omega) (by decide) fun i5 h6 f0 f1 p6 => ?_
  obtain ⟨con, hcon, econ⟩ : ∃ con, GCon con ∧ L2.atI [PyData.none, .tuple [.str "number", .int k]] (if 0 < i5 then 1 else 0) = some con := by
    by_cases q : 0 < i5
    · rw [if_pos q]; exact ⟨_, .inr ⟨k, hk, rfl⟩, atI_1 _ _ _⟩
    · rw [if_neg q]; exact ⟨_, .inl rfl, atI_0 _ _⟩
  simp [econ, l2, l3, tupD]
  refine pen_take p6 (by omega) (by decide) fun i6 h7 g0 g1 p7 => ?_
  obtain ⟨r, hr, er⟩ := pick_all (xs := [.none, stP s']) g0 g1 (fun x => x = .none ∨ x = stP s') (by
    intro x hx
    simp only [List.mem_cons, List.not_mem_nil, or_false] at hx
    exact hx)
  simp [er, l2, l3, l5, l6, tupD]
  refine pen_take p7 (by omega) (by decide) fun i7 h8 j0 j1 p8 => ?_
  obtain ⟨lc, ⟨lz, rfl, hlc⟩, elc⟩ := pick_all (xs := [.str "", .str ⟨#[c]⟩]) j0 j1 (fun x => ∃ z, x = .str z ∧ (z = "" ∨ GCol z)) (by
    intro x hx
    simp only [List.mem_cons, List.not_mem_nil, or_false] at hx
    rcases hx with rfl | rfl
    · exact ⟨_, rfl, .inl rfl⟩
    · exact ⟨_, rfl, .inr hcol⟩)
  simp [elc]
  refine pen_take p8 (by omega) (by decide) fun i8 h9 m0 m1 p9 => ?_
  simp [l2, l3, l5, l6, l8, tupD]
  refine pen_take p9 (by omega) (by decide) fun i9 h10 q0 q1 p10 => ?_
  obtain ⟨x, hx, ex⟩ := pick_all (xs := [.tuple [.str "sheet", .str z], .tuple [.str "row", stP s, r], .tuple [.str "strike", stP s], .tuple [.str "put", stP s, stP s', .str ⟨#[c]⟩, con], .tuple [.str "name", stP s, .str z, stP s', .str ⟨#[c]⟩], .tuple [.str "fetch", stP s], .tuple [.str "let", stP s, .str s'.2.1, .str lz, .int i8], .tuple [.str "undo", stP s]]) q0 q1 (GWhat (· ∈ sts) (· = z)) (by
    intro x hx
    simp only [List.mem_cons, List.not_mem_nil, or_false] at hx
    rcases hx with rfl | rfl | rfl | rfl | rfl | rfl | rfl | rfl
    · exact .sheet rfl
    · rcases hr with rfl | rfl
      · exact .row ms
      · exact .row2 ms ms'
    · exact .strike ms
    · exact .put ms ms' hcol hcon
    · exact .name ms rfl ms' hcol
    · exact .fetch ms
    · exact .let_ ms ms' hlc ⟨m0, by omega⟩
    · exact .undo ms)
  simp [ex]
  rw [leave_same (by rw [p10.len, p.len])]
  exact hq _ _ hx (p10.le (by omega))
theorem atI_last {α : Type} (xs : List α) (hx : xs ≠ []) : ∃ x, x ∈ xs ∧ L2.atI xs (-1) = some x := by
  have hl : 0 < xs.length := List.length_pos_iff.mpr hx
  have h3 : xs.length - 1 < xs.length := by omega
  refine ⟨xs[xs.length - 1], List.getElem_mem _, ?_⟩
  have e : ((-1 : Int) + xs.length).toNat = xs.length - 1 := by omega
  simp only [L2.atI, L2.ixN]
  rw [if_neg (by omega), if_pos (by omega)]
  simp only [Option.bind_some, e, List.getElem?_eq_getElem h3]
theorem GWhat.mono {P P' : St → Prop} {Z Z' : Str → Prop} {x : PyData} (h : GWhat P Z x) (hP : ∀ s, P s → P' s) (hZ : ∀ z, Z z → Z' z) : GWhat P' Z' x := by
  cases h with
  | sheet hz => exact .sheet (hZ _ hz)
  | row hs => exact .row (hP _ hs)
  | row2 hs hs' => exact .row2 (hP _ hs) (hP _ hs')
  | strike hs => exact .strike (hP _ hs)
  | put hs hs' hc hk => exact .put (hP _ hs) (hP _ hs') hc hk
  | name hs hz hs' hc => exact .name (hP _ hs) (hZ _ hz) (hP _ hs') hc
  | fetch hs => exact .fetch (hP _ hs)
  | let_ hs hs' hc hl => exact .let_ (hP _ hs) (hP _ hs') hc hl
  | undo hs => exact .undo (hP _ hs)
theorem drawn_w {many : Int} (p : Pen n rest h) (hn : n ≤ 7000000) (hm : 0 ≤ many ∧ many ≤ 40) (hl : low (rest.length + 1) rest = true)
    (hq : ∀ (log : List Dd) h', (log.length : Int) = many → Rising log → (∀ d ∈ log, GSt d.1 ∧ GWhat GSt word8 d.2) → Pen (n + 700) rest h' → Q (.p (.list (log.map dP))) h') : W (F0_law_drawn [.cell 0, .p (.int many)]) h Q := by
  unfold F0_law_drawn
  rw [w_fun]
  have hL : (2000 : Nat) ≤ sizeLine := by decide
  have l3 : (3 : Nat) ≤ sizeLine := by omega
  have l2 : (2 : Nat) ≤ sizeLine := by omega
  have l1 : (1 : Nat) ≤ sizeLine := by omega
  simp [B_law_drawn]
  refine pen_take p (by omega) (by decide) fun i0 h1 a0 a1 p1 => ?_
  simp
  refine words_w p1 (by omega) (by omega) hl fun zs h2 hz wz p2 => ?_
  simp
  have hz0 : zs ≠ [] := by
    rintro rfl
    simp only [List.length_nil] at hz; omega
  refine stamps_w p2 (by omega) hm (by omega) hl fun sts h3 hs gs ap p3 => ?_
  refine pen_take p3 (by omega) (by decide) fun i1 h4 b0 b1 p4 => ?_
  obtain ⟨z0, mz0, ez0⟩ : ∃ z0, z0 ∈ zs ∧ L2.atI (zs.map PyData.str) 0 = some (.str z0) := by
    cases zs with
    | nil => exact absurd rfl hz0
    | cons z zs => exact ⟨z, List.mem_cons_self .., by simp⟩
  simp [ez0, l3, tupD, w_cmpE, wipeE]
  have w8 : ∀ z ∈ zs, word8 z := fun z hz => ⟨(wz z hz).1, by have := (wz z hz).2.1; omega, (wz z hz).2.2⟩
  have gS : ∀ s ∈ sts, GSt s := fun s hs' => by
    obtain ⟨u1, u2, u3, u4, u5⟩ := gs s hs'
    exact ⟨u1, u2, w8 _ u3, u4, by omega⟩
  have gF : GSt (i1, z0, 199) := ⟨b0, by show i1 ≤ 1000000; omega, w8 _ mz0, by show (0 : Int) ≤ 199; decide, by show (199 : Int) ≤ 199; decide⟩
  obtain ⟨zl, mzl, ezl⟩ := atI_last (zs.map PyData.str) (by simpa using hz0)
  obtain ⟨zl', mzl', rfl⟩ := List.mem_map.mp mzl
  have e4 := p4.len
  refine w_cmpL (fun ds ys h => ∃ (dn : List Dd) (us : List St), ds = us.map (fun s => D.p (stP s)) ∧ ys = dn.map (fun d => D.p (dP d)) ∧ sts = dn.map (·.1) ++ us ∧ (∀ d ∈ dn, GWhat GSt word8 d.2) ∧ Pen (n + 13 + 4 * many + 11 * dn.length) rest h) ?_ _ [] _ _ ⟨[], sts, by simp, rfl, rfl, by simp, p4.le (by simp; omega)⟩ ?_
  · rintro d ds ys h' ⟨dn, us, e, rfl, es, gd, pp⟩
    cases us with
    | nil => simp at e
    | cons u us =>
      simp only [List.map_cons, List.cons.injEq] at e
      obtain ⟨rfl, rfl⟩ := e
      have hlen : sts.length = dn.length + (us.length + 1) := by rw [es]; simp
      refine ⟨_, rfl, ?_⟩
      simp [l1, ezl]
      have ef : PyData.tuple [.int i1, .str z0, .int 199] = stP (i1, z0, 199) := rfl
      have el : sts.map stP ++ [PyData.tuple [.int i1, .str z0, .int 199]] = (sts ++ [(i1, z0, 199)]).map stP := by simp [stP]
      refine ⟨by omega, ?_⟩
      rw [el]
      refine simple_w pp (by omega) (by simp) (by simp; omega) fun x h5 gx p5 => ?_
      simp [l2, tupD]
      refine ⟨dn ++ [(u, x)], us, ⟨rfl, ?_⟩⟩
      refine ⟨by simp [dP], by rw [es]; simp, ?_, p5.le (by simp; omega)⟩
      have : ∀ d ∈ dn ++ [(u, x)], GWhat GSt word8 d.2 := by
        intro d hd
        rcases List.mem_append.mp hd with hd | hd
        · exact gd d hd
        rw [List.mem_singleton] at hd
        subst hd
        refine gx.mono (fun s hs' => ?_) fun z hz' => ?_
        · rcases List.mem_append.mp hs' with h | h
          · exact gS s h
          · rw [List.mem_singleton] at h; subst h; exact gF
        · rw [show z = zl' from hz']; exact w8 _ mzl'
      simpa using this
  · rintro zs' h' ⟨dn, us, e, ey, es, gd, pp⟩
    have : us = [] := by simpa using e.symm
    subst this
    simp only [List.nil_append] at ey
    subst ey
    simp only [List.append_nil] at es
    have hlen : dn.length = sts.length := by rw [es]; simp
    have un : Unlike dn := by
      have : (dn.map (·.1)).Pairwise fun a b => a ≠ b := by
        rw [← es]
        exact ap.imp fun {a b} h e => h ⟨by rw [e], by rw [e]⟩
      exact List.pairwise_map.mp this
    have gok : ∀ d ∈ dn, Ok 2 1200 d.2 := fun d hd => ok_what (fun _ h => h) (fun _ h => h) (gd d hd)
    refine ⟨by simp; omega, dn.map dP, by rw [plain_mapf], ?_⟩
    refine ⟨sortOk_dP un fun d hd => ⟨(gok d hd).2.1, Nat.le_trans (gok d hd).1.2.2.1 (by decide)⟩, ?_⟩
    obtain ⟨log, elog, perm, ris⟩ := sortL_dP un
    rw [elog]
    rw [leave_same (by rw [pp.len, p.len])]
    refine hq log h' (by rw [perm.length_eq, hlen]; exact hs) ris (fun d hd => ?_) (pp.le (by omega))
    have hd' := perm.mem_iff.mp hd
    refine ⟨gS _ ?_, gd _ hd'⟩
    rw [es]
    exact List.mem_map_of_mem hd'
end
end G
/-! dicts of stamps -/
namespace G
open MP
open PySem (PyData Str sizeLine NestedKey)
def kvD {α : Type} (f : α → D) (ps : List (St × α)) : List (PyData × D) := ps.map fun p => (stP p.1, f p.2)
def nks (s : St) : NestedKey := .tup [.num s.1, .text s.2.1, .num s.2.2]
theorem tk_st (s : St) : tk (stP s) = some (nks s) := rfl
theorem nk_st (s : St) : nkD (stP s) = some (nks s) := rfl
theorem nks_inj {a b : St} (h : nks a = nks b) : a = b := by
  simp only [nks, NestedKey.tup.injEq, List.cons.injEq, NestedKey.num.injEq, NestedKey.text.injEq, and_true] at h
  obtain ⟨h1, h2, h3⟩ := h
  obtain ⟨a1, a2, a3⟩ := a
  obtain ⟨b1, b2, b3⟩ := b
  simp only at h1 h2 h3
  rw [h1, h2, h3]
def putS {α : Type} (ps : List (St × α)) (s : St) (x : α) : List (St × α) := if (ps.any fun p => decide (p.1 = s)) = true then ps.map (fun p => if p.1 = s then (p.1, x) else p) else ps ++ [(s, x)]
section
variable {α : Type} {f : α → D}
theorem nk_dec (a s : St) : (nkD (stP a) = some (nks s)) = (a = s) := by
  rw [nk_st]
  simp only [Option.some.injEq]
  exact propext ⟨nks_inj, fun e => by rw [e]⟩
theorem put_kv (ps : List (St × α)) (s : St) (x : α) : dputL nkD (kvD f ps) (nks s) (stP s) (f x) = kvD f (putS ps s x) := by
  have e1 : ((kvD f ps).any fun p => decide (nkD p.1 = some (nks s))) = ps.any fun p => decide (p.1 = s) := by
    simp [kvD, List.any_map, Function.comp_def, nk_dec]
  unfold dputL putS
  rw [e1]
  split
  · simp only [kvD, List.map_map]
    refine List.map_congr_left fun p _ => ?_
    simp only [Function.comp_def, nk_dec]
    split <;> rfl
  · simp [kvD]
theorem find_kv (ps : List (St × α)) (s : St) : dfind nkD (kvD f ps) (nks s) = (ps.find? fun p => decide (p.1 = s)).map fun p => f p.2 := by
  induction ps with
  | nil => rfl
  | cons p ps ih =>
    simp only [kvD, List.map_cons] at ih ⊢
    rw [dfind_cons, ih, List.find?_cons]
    simp only [nk_dec]
    by_cases e : p.1 = s
    · simp [e]
    · simp [e]
theorem putS_len (ps : List (St × α)) (s : St) (x : α) : (putS ps s x).length ≤ ps.length + 1 := by
  unfold putS
  split <;> simp
theorem putS_mem {ps : List (St × α)} {s : St} {x : α} {p : St × α} (h : p ∈ putS ps s x) : p ∈ ps ∨ p = (s, x) := by
  unfold putS at h
  split at h
  · obtain ⟨q, hq, rfl⟩ := List.mem_map.mp h
    split
    · rename_i e; rw [e]; exact .inr rfl
    · exact .inl hq
  · rcases List.mem_append.mp h with h | h
    · exact .inl h
    · exact .inr (by simpa using h)
/-- what is kept of s -/
def findS (ps : List (St × α)) (s : St) : Option α := (ps.find? fun p => decide (p.1 = s)).map (·.2)
theorem findS_nil (s : St) : findS ([] : List (St × α)) s = none := rfl
theorem findS_cons (p : St × α) (ps : List (St × α)) (s : St) : findS (p :: ps) s = if p.1 = s then some p.2 else findS ps s := by
  unfold findS
  rw [List.find?_cons]
  by_cases e : p.1 = s
  · simp [e]
  · simp [e]
theorem find_kvS (ps : List (St × α)) (s : St) : dfind nkD (kvD f ps) (nks s) = (findS ps s).map f := by
  rw [find_kv]
  unfold findS
  rw [Option.map_map]
  rfl
theorem any_find : ∀ (ps : List (St × α)) (s : St), (ps.any fun p => decide (p.1 = s)) = (findS ps s).isSome
  | [], s => rfl
  | p :: ps, s => by
    rw [findS_cons, List.any_cons, any_find ps s]
    by_cases e : p.1 = s
    · simp [e]
    · simp [e]
theorem findS_map (s t : St) (x : α) : ∀ ps : List (St × α), findS (ps.map fun p => if p.1 = s then (p.1, x) else p) t = if t = s then (findS ps s).map fun _ => x else findS ps t
  | [] => by simp [findS_nil]
  | p :: ps => by
    rw [List.map_cons, findS_cons, findS_cons, findS_cons, findS_map s t x ps]
    by_cases e : p.1 = s
    · by_cases q : t = s
      · subst q; simp [e]
      · have q' : ¬ s = t := fun z => q z.symm
        simp [e, q, q']
    · by_cases q : t = s
      · subst q; simp [e]
      · simp [e, q]
theorem findS_app (ps : List (St × α)) (s t : St) (x : α) : findS (ps ++ [(s, x)]) t = match findS ps t with
    | some y => some y
    | none => if s = t then some x else none := by
  induction ps with
  | nil => simp [findS_cons, findS_nil]
  | cons p ps ih =>
    rw [List.cons_append, findS_cons, findS_cons, ih]
    by_cases e : p.1 = t
    · simp [e]
    · simp [e]
theorem findS_put (ps : List (St × α)) (s t : St) (x : α) : findS (putS ps s x) t = if t = s then some x else findS ps t := by
  unfold putS
  rw [any_find]
  cases e : findS ps s with
  | some y =>
    simp only [Option.isSome_some, if_true]
    rw [findS_map, e]
    rfl
  | none =>
    simp only [Option.isSome_none, Bool.false_eq_true, if_false]
    rw [findS_app]
    by_cases q : t = s
    · subst q; simp [e]
    · have q' : ¬ s = t := fun z => q z.symm
      simp only [q, q', if_false]
      cases findS ps t <;> rfl
/-- keys are unlike -/
def UK (ps : List (St × α)) : Prop := ps.Pairwise fun a b => a.1 ≠ b.1
theorem uk_nil : UK ([] : List (St × α)) := .nil
theorem find_mem {ps : List (St × α)} (u : UK ps) {s : St} {x : α} : findS ps s = some x ↔ (s, x) ∈ ps := by
  induction ps with
  | nil => simp [findS_nil]
  | cons p ps ih =>
    obtain ⟨h1, h2⟩ := List.pairwise_cons.mp u
    rw [findS_cons, List.mem_cons]
    by_cases e : p.1 = s
    · rw [if_pos e]
      constructor
      · intro q
        left
        cases p
        simp only at e
        simp only [Option.some.injEq] at q
        rw [e, q]
      · rintro (q | q)
        · rw [← q]
        · exact absurd e (h1 _ q)
    · rw [if_neg e, ih h2]
      constructor
      · exact .inr
      · rintro (q | q)
        · rw [← q] at e; exact absurd rfl e
        · exact q
theorem uk_put {ps : List (St × α)} (u : UK ps) (s : St) (x : α) : UK (putS ps s x) := by
  unfold putS
  split
  · refine List.pairwise_map.mpr (u.imp fun {a b} h => ?_)
    have e : ∀ p : St × α, (if p.1 = s then (p.1, x) else p).1 = p.1 := fun p => by split <;> rfl
    rw [e, e]
    exact h
  · rename_i h
    refine List.pairwise_append.mpr ⟨u, List.pairwise_singleton _ _, fun a ha b hb => ?_⟩
    rw [List.mem_singleton] at hb
    subst hb
    intro e
    refine h ?_
    rw [List.any_eq_true]
    exact ⟨a, ha, decide_eq_true e⟩
theorem uk_nodup {ps : List (St × α)} (u : UK ps) : ps.Nodup := u.imp fun {a b} h e => h (by rw [e])
theorem nodup_len {β : Type} [DecidableEq β] : ∀ {xs ys : List β}, xs.Nodup → (∀ x ∈ xs, x ∈ ys) → xs.length ≤ ys.length
  | [], ys, _, _ => Nat.zero_le _
  | x :: xs, ys, nd, sub => by
    obtain ⟨h1, h2⟩ := List.nodup_cons.mp nd
    have hx := sub x (List.mem_cons_self ..)
    have := nodup_len (xs := xs) (ys := ys.erase x) h2 fun y hy => (List.mem_erase_of_ne (fun e : y = x => h1 (by rw [← e]; exact hy))).mpr (sub y (List.mem_cons_of_mem _ hy))
    rw [List.length_erase_of_mem hx] at this
    have : 0 < ys.length := List.length_pos_of_mem hx
    simp only [List.length_cons]
    omega
/-- the keys lie among so many -/
theorem uk_len {ps : List (St × α)} (u : UK ps) {ss : List St} (sub : ∀ p ∈ ps, p.1 ∈ ss) : ps.length ≤ ss.length := by
  have := nodup_len (xs := ps.map (·.1)) (ys := ss) (by unfold List.Nodup; exact List.pairwise_map.mpr u) fun x hx => by
    obtain ⟨p, hp, rfl⟩ := List.mem_map.mp hx
    exact sub p hp
  simpa using this
end
theorem stLt_anti {a b : Dd} (h : stLt a.1 b.1) (g : stLt b.1 a.1) : False := stLt_irrefl _ (stLt_trans h g)
theorem rising_eq : ∀ {xs ys : List Dd}, Rising xs → Rising ys → xs.Perm ys → xs = ys
  | [], ys, _, _, p => (List.nil_perm.mp p).symm
  | x :: xs, [], _, _, p => absurd p (by simp)
  | x :: xs, y :: ys, hx, hy, p => by
    obtain ⟨x1, x2⟩ := List.pairwise_cons.mp hx
    obtain ⟨y1, y2⟩ := List.pairwise_cons.mp hy
    have e : x = y := by
      have mx := p.mem_iff.mp (List.mem_cons_self (a := x) (l := xs))
      have my := p.mem_iff.mpr (List.mem_cons_self (a := y) (l := ys))
      rcases List.mem_cons.mp mx with e | mx
      · exact e
      rcases List.mem_cons.mp my with e | my
      · exact e.symm
      exact (stLt_anti (x1 _ my) (y1 _ mx)).elim
    subst e
    rw [rising_eq x2 y2 (List.perm_cons x |>.mp p)]
/-- dicts that tell the same are sorted alike -/
theorem same_sort {ps qs : List Dd} (up : UK ps) (uq : UK qs) (h : ∀ s, findS ps s = findS qs s) : sortL (ps.map dP) = sortL (qs.map dP) := by
  obtain ⟨p', e1, p1, r1⟩ := sortL_dP (ps := ps) up
  obtain ⟨q', e2, p2, r2⟩ := sortL_dP (ps := qs) uq
  have pp : ps.Perm qs := (List.perm_ext_iff_of_nodup (uk_nodup up) (uk_nodup uq)).mpr fun a => by
    rw [show a = (a.1, a.2) from rfl, ← find_mem up, ← find_mem uq, h]
  rw [e1, e2, rising_eq r1 r2 (p1.trans (pp.trans p2.symm))]
end G
/-! k14: who names whom (no program in sight) -/
namespace G
open MP
open PySem (PyData Str sizeLine NestedKey)
/-- what a deed undoes -/
def aimOf : PyData → Option St
  | .tuple [.str w, .tuple [.int t, .str z, .int n]] => if w = "undo" then some (t, z, n) else none
  | _ => none
/-- d would undo s -/
def nam (d : Dd) (s : St) : Bool := decide (aimOf d.2 = some s) && (decide (d.1.2.1 = s.2.1) && decide (stLt s d.1))
/-- the undoers of s, of a rising log -/
def nm : List Dd → St → List St
  | [], _ => []
  | d :: r, s => if (nam d s && (nm r d.1).isEmpty) = true then d.1 :: nm r s else nm r s
theorem nm_skip {t : St} (r : List Dd) : ∀ pre : List Dd, (∀ e ∈ pre, ¬ stLt t e.1) → nm (pre ++ r) t = nm r t
  | [], _ => rfl
  | e :: pre, h => by
    have he := h e (List.mem_cons_self ..)
    rw [List.cons_append, nm, nm_skip r pre fun x hx => h x (List.mem_cons_of_mem _ hx)]
    simp [nam, he]
theorem nm_at {L pre r : List Dd} {d : Dd} (ris : Rising L) (e : pre ++ d :: r = L) : nm L d.1 = nm r d.1 := by
  subst e
  have h := List.pairwise_append.mp ris
  have : nm ((pre ++ [d]) ++ r) d.1 = nm r d.1 := nm_skip r (pre ++ [d]) fun x hx => by
    rcases List.mem_append.mp hx with hx | hx
    · exact fun q => stLt_irrefl _ (stLt_trans q (h.2.2 x hx d (List.mem_cons_self ..)))
    · rw [List.mem_singleton] at hx; subst hx; exact stLt_irrefl _
  simpa using this
/-- the law's reading -/
theorem nm_filter {L : List Dd} (ris : Rising L) (s : St) : ∀ (r pre : List Dd), pre ++ r = L → nm r s = (r.filter fun d => nam d s && (nm L d.1).isEmpty).map (·.1)
  | [], _, _ => rfl
  | d :: r, pre, e => by
    rw [nm, nm_filter ris s r (pre ++ [d]) (by rw [← e]; simp), List.filter_cons, nm_at ris e]
    split
    · rename_i h; simp [h]
    · rename_i h
      simp only [Bool.not_eq_true] at h
      simp [h]
/-- the program's dict behind the rest r of the log; In: the stamps that are there -/
def fnd (In : St → Bool) : List Dd → St → Option St
  | [], _ => none
  | d :: r, s => if ((fnd In r d.1).isNone && (match aimOf d.2 with
      | some a => In a && (decide (a.2.1 = d.1.2.1) && decide (stLt a d.1))
      | none => false)) = true ∧ aimOf d.2 = some s then some d.1 else fnd In r s
theorem fnd_nm {In : St → Bool} : ∀ (r : List Dd), (∀ d ∈ r, In d.1 = true) → ∀ s, fnd In r s = if In s = true then (nm r s).head? else none
  | [], _, s => by simp [fnd, nm]
  | d :: r, h, s => by
    have ih := fnd_nm r fun x hx => h x (List.mem_cons_of_mem _ hx)
    have hd := h d (List.mem_cons_self ..)
    rw [fnd, nm, ih d.1, ih s, if_pos hd]
    cases ea : aimOf d.2 with
    | none => simp [nam, ea]
    | some a =>
      by_cases es : a = s
      · subst es
        simp only [nam, ea, decide_true, Bool.true_and, and_true]
        have en : (List.head? (nm r d.1)).isNone = (nm r d.1).isEmpty := by cases nm r d.1 <;> rfl
        rw [en]
        have ec : decide (a.2.1 = d.1.2.1) = decide (d.1.2.1 = a.2.1) := by
          by_cases q : a.2.1 = d.1.2.1
          · simp [q]
          · have q' : ¬ d.1.2.1 = a.2.1 := fun z => q z.symm
            simp [q, q']
        rw [ec]
        cases In a with
        | false => simp
        | true =>
          simp only [Bool.true_and, if_true]
          rw [Bool.and_comm]
          split <;> rfl
      · have es' : ¬ (some a = some s) := fun q => es (Option.some.inj q)
        simp [nam, ea, es]
end G
/-! k14: the logs with undoings -/
namespace G
open MP
open PySem (PyData Str sizeLine NestedKey)
def UW (x : PyData) : Prop := (∃ z : Str, word8 z ∧ x = .tuple [.str "sheet", .str z]) ∨ ∃ a : St, GSt a ∧ x = .tuple [.str "undo", stP a]
theorem enuL_T (xs : List PyData) : enuL xs = enuT 0 xs := by
  have go : ∀ (xs : List PyData) (k : Nat), ((xs.zipIdx k).map fun p => (D.p (.tuple [.int (p.2 : Nat), p.1]))) = enuT k xs := by
    intro xs
    induction xs with
    | nil => intro _; rfl
    | cons x xs ih => intro k; rw [List.zipIdx_cons, List.map_cons, ih]; rfl
  exact go xs 0
theorem cutW {α : Type} {f : M α} {a : α} {h h' : Hm} {Q : α → Hm → Prop} (e : W f h fun b h2 => b = a ∧ h2 = h') (q : Q a h') : W f h Q := e.mono fun _ _ ⟨e1, e2⟩ => by rw [e1, e2]; exact q
theorem seqW {f g : Ev → M Fl} {μ μ' : Ev} {h h' : Hm} {Q : Fl → Hm → Prop} (e : W (f μ) h fun b h2 => b = .nx μ' ∧ h2 = h') (q : W (g μ') h' Q) : W (sSeq f g μ) h Q := w_seq.mpr (cutW e q)
theorem cut_map {α β : Type} (f : α → β) (xs : List α) (lo hi : Option Int) : cutP (xs.map f) lo hi = (cutP xs lo hi).map f := by
  simp [cutP, List.map_drop, List.map_take]
theorem cut_mem {α : Type} {xs : List α} {lo hi : Option Int} {x : α} (h : x ∈ cutP xs lo hi) : x ∈ xs := List.mem_of_mem_drop (List.mem_of_mem_take h)
theorem cut_len {α : Type} (xs : List α) (lo hi : Option Int) : (cutP xs lo hi).length ≤ xs.length := by
  unfold cutP
  rw [List.length_take, List.length_drop]
  omega
/-- a moment back -/
def backS (s : St) : St := (mxI 0 (s.1 - 1), s.2.1, s.2.2)
theorem back_ok {s : St} (h : GSt s) : GSt (backS s) := ⟨le_mx.mpr (.inl (Int.le_refl _)), mx_le.mpr ⟨by decide, by have := h.2.1; omega⟩, h.2.2⟩
section
variable {n : Int} {rest h : Hm} {Q : D → Hm → Prop}
theorem ok_uw {x : PyData} (h : UW x) : Ok 2 400 x := by
  rcases h with ⟨z, hz, rfl⟩ | ⟨a, ha, rfl⟩
  · refine (Ok.tup (d := 1) (w := 153) (n := 2) (fun y hy => ?_) (by simp)).le (by omega) (by omega)
    simp only [List.mem_cons, List.not_mem_nil, or_false] at hy
    rcases hy with rfl | rfl
    · exact (ok_lit (by decide +kernel)).le (by omega) (by omega)
    · exact (ok_word hz).le (by omega) (by omega)
  · refine (Ok.tup (d := 1) (w := 153) (n := 2) (fun y hy => ?_) (by simp)).le (by omega) (by omega)
    simp only [List.mem_cons, List.not_mem_nil, or_false] at hy
    rcases hy with rfl | rfl
    · exact (ok_lit (by decide +kernel)).le (by omega) (by omega)
    · exact ok_st ha
theorem undos_w {many : Int} (p : Pen n rest h) (hn : n ≤ 7000000) (hm : 0 ≤ many ∧ many ≤ 40) (hl : low (rest.length + 1) rest = true)
    (hq : ∀ (log : List Dd) h', (log.length : Int) = many → Rising log → (∀ d ∈ log, GSt d.1 ∧ UW d.2) → Pen (n + 700) rest h' → Q (.p (.list (log.map dP))) h') : W (F0_law_undos [.cell 0, .p (.int many)]) h Q := by
  unfold F0_law_undos
  rw [w_fun]
  have hL : (2000 : Nat) ≤ sizeLine := by decide
  have l6 : (6 : Nat) ≤ sizeLine := by omega
  have l3 : (3 : Nat) ≤ sizeLine := by omega
  have l2 : (2 : Nat) ≤ sizeLine := by omega
  have l1 : (1 : Nat) ≤ sizeLine := by omega
  simp [B_law_undos]
  refine pen_take p (by omega) (by decide) fun i0 h1 a0 a1 p1 => ?_
  simp
  refine words_w p1 (by omega) (by omega) hl fun zs h2 hz wz p2 => ?_
  have hz0 : zs ≠ [] := by
    rintro rfl
    simp only [List.length_nil] at hz; omega
  refine stamps_w p2 (by omega) hm (by omega) hl fun sts h3 hs gs ap p3 => ?_
  obtain ⟨z0, mz0, ez0⟩ : ∃ z0, z0 ∈ zs ∧ L2.atI (zs.map PyData.str) 0 = some (.str z0) := by
    cases zs with
    | nil => exact absurd rfl hz0
    | cons z zs => exact ⟨z, List.mem_cons_self .., by simp⟩
  have w8 : ∀ z ∈ zs, word8 z := fun z hz => ⟨(wz z hz).1, by have := (wz z hz).2.1; omega, (wz z hz).2.2⟩
  have gS : ∀ s ∈ sts, GSt s := fun s hs' => by
    obtain ⟨u1, u2, u3, u4, u5⟩ := gs s hs'
    exact ⟨u1, u2, w8 _ u3, u4, by omega⟩
  have e3 := p3.len
  simp [w_for, enuL_T]
  rw [e3]
  refine w_forI (fun ds μ h => ∃ (dn : List Dd) (us : List St) (o5 o6 o7 o8 o9 o10 o11 o12 : Option D), ds = enuT dn.length (us.map stP) ∧ sts = dn.map (·.1) ++ us ∧ (∀ d ∈ dn, UW d.2) ∧ Pen (n + 12 + 4 * many + 4 * dn.length) (rest ++ [.lst ((dn.map dP).map .p)]) h ∧ μ = [some (.cell 0), some (.p (.int many)), some (.p (.list (zs.map .str))), some (.p (.list (sts.map stP))), some (.cell (rest.length + 1)), o5, o6, o7, o8, o9, o10, o11, o12]) ?_ ?_ _ _ _ ⟨[], sts, none, none, none, none, none, none, none, none, rfl, rfl, by simp, (p3.add _).le (by simp; omega), rfl⟩
  · rintro μ h' ⟨dn, us, o5, o6, o7, o8, o9, o10, o11, o12, eu, es, gd, pp, rfl⟩
    have us0 : us = [] := by cases us with
      | nil => rfl
      | cons u us => simp [enuT] at eu
    subst us0
    rw [List.append_nil] at es
    have hlen : dn.length = sts.length := by rw [es]; simp
    have un : Unlike dn := by
      have : (dn.map (·.1)).Pairwise fun a b => a ≠ b := by
        rw [← es]
        exact ap.imp fun {a b} h e => h ⟨by rw [e], by rw [e]⟩
      exact List.pairwise_map.mp this
    have gg := pp.get
    have lk : lookD h' (.cell (rest.length + 1)) = some (.list (dn.map dP)) := lookD_cell gg (plain_map _)
    have gok : ∀ d ∈ dn, Ok 2 400 d.2 := fun d hd => ok_uw (gd d hd)
    simp [lk]
    refine ⟨sortOk_dP un fun d hd => ⟨(gok d hd).2.1, Nat.le_trans (gok d hd).1.2.2.1 (by decide)⟩, ?_⟩
    obtain ⟨log, elog, perm, ris⟩ := sortL_dP un
    rw [elog, p.len]
    refine leave_data pp hl fun h2 p5 => hq log h2 (by rw [perm.length_eq, hlen]; exact hs) ris (fun d hd => ?_) (p5.le (by omega))
    have hd' := perm.mem_iff.mp hd
    exact ⟨gS _ (by rw [es]; exact List.mem_map_of_mem hd'), gd _ hd'⟩
  · rintro d ds μ h' ⟨dn, us, o5, o6, o7, o8, o9, o10, o11, o12, eu, es, gd, pp, rfl⟩
    cases us with
    | nil => simp [enuT] at eu
    | cons u us =>
      simp only [List.map_cons, enuT, List.cons.injEq] at eu
      obtain ⟨rfl, rfl⟩ := eu
      have gu : GSt u := gS u (by rw [es]; simp)
      have ldn : dn.length + (us.length + 1) = sts.length := by rw [es]; simp
      refine ⟨_, rfl, ?_⟩
      have ec := cmpL_map (g := gNm 12) (tt := tstB (bin (rd2 (eqP false)) (bin idxD (var 12) (cst (.int 1))) (bin idxD (var 6) (cst (.int 1))))) (te := var 12) (μ := [some (.cell 0), some (.p (.int many)), some (.p (.list (zs.map .str))), some (.p (.list (sts.map stP))), some (.cell (rest.length + 1)), some (.p (.int (dn.length : Nat))), some (.p (stP u)), o7, o8, o9, o10, o11, none]) (h := h') (fun s : St => D.p (stP s)) (fun s => decide (s.2.1 = u.2.1)) (fun s => D.p (stP s)) (cutP sts none (some (dn.length : Int))) fun s hs => ⟨_, rfl, run_of (by simp [twoS, eqv_str]), fun _ => rfl⟩
      refine seqW (μ' := [some (.cell 0), some (.p (.int many)), some (.p (.list (zs.map .str))), some (.p (.list (sts.map stP))), some (.cell (rest.length + 1)), some (.p (.int (dn.length : Nat))), some (.p (stP u)), some (.p (.list (((cutP sts none (some (dn.length : Int))).filter fun s => decide (s.2.1 = u.2.1)).map stP))), o8, o9, o10, o11, o12]) (h' := h') ?_ ?_
      · have lf := List.length_filter_le (fun s : St => decide (s.2.1 = u.2.1)) (cutP sts none (some (dn.length : Int)))
        have lc := cut_len sts none (some (dn.length : Int))
        have e' : List.map (D.p ∘ stP) (cutP sts none (some (dn.length : Int))) = List.map (fun s => D.p (stP s)) (cutP sts none (some (dn.length : Int))) := rfl
        simp [w_cmpE, wipeE, cut_map]
        rw [e', w_of ec, plain_mapf]
        simp
        omega
      · have hown : ∀ y ∈ (cutP sts none (some (dn.length : Int))).filter fun s => decide (s.2.1 = u.2.1), GSt y := fun y hy => gS y (cut_mem (List.mem_filter.mp hy).1)
        have lown : ((cutP sts none (some (dn.length : Int))).filter fun s => decide (s.2.1 = u.2.1)).length ≤ 40 := by
          have lf := List.length_filter_le (fun s : St => decide (s.2.1 = u.2.1)) (cutP sts none (some (dn.length : Int)))
          have lc := cut_len sts none (some (dn.length : Int))
          omega
        clear ec
        generalize ((cutP sts none (some (dn.length : Int))).filter fun s => decide (s.2.1 = u.2.1)) = own at hown lown
        have l2' := cut_len own (some (-2)) none
        have ec2 := cmpL_map (g := gNm 12) (tt := yesT) (te := tupE (aCons (app maxD (aCons (cst (.int 0)) (aCons (bin (rd2 subP) (bin idxD (var 12) (cst (.int 0))) (cst (.int 1))) aNil))) (aCons (bin idxD (var 12) (cst (.int 1))) (aCons (bin idxD (var 12) (cst (.int 2))) aNil)))) (μ := [some (.cell 0), some (.p (.int many)), some (.p (.list (zs.map .str))), some (.p (.list (sts.map stP))), some (.cell (rest.length + 1)), some (.p (.int (dn.length : Nat))), some (.p (stP u)), some (.p (.list (own.map stP))), some (.p (.list ([(u.1, u.2.1, 199), (0, "zzzzzzzz", 7)].map stP))), o9, o10, o11, none]) (h := h') (fun s : St => D.p (stP s)) (fun _ => true) (fun s => D.p (stP (backS s))) (cutP own (some (-2)) none) fun s hs => ⟨_, rfl, rfl, fun _ => run_of (by
          simp [l3, tupD, stP, backS])⟩
        rw [List.filter_eq_self.mpr fun _ _ => rfl] at ec2
        have e' : List.map (D.p ∘ stP) (cutP own (some (-2)) none) = List.map (fun s => D.p (stP s)) (cutP own (some (-2)) none) := rfl
        have gfar : ∀ y ∈ [(u.1, u.2.1, 199), (0, ("zzzzzzzz" : Str), 7)] ++ (cutP own (some (-2)) none).map backS, GSt y := fun y hy => by
          rcases List.mem_append.mp hy with hy | hy
          · simp only [List.mem_cons, List.not_mem_nil, or_false] at hy
            rcases hy with rfl | rfl
            · exact ⟨gu.1, gu.2.1, gu.2.2.1, by show (0 : Int) ≤ 199; decide, by show (199 : Int) ≤ 199; decide⟩
            · exact ⟨by decide, by decide, by unfold word8 lows; decide +kernel, by decide, by decide⟩
          · obtain ⟨z, hz, rfl⟩ := List.mem_map.mp hy
            exact back_ok (hown z (cut_mem hz))
        refine seqW (μ' := [some (.cell 0), some (.p (.int many)), some (.p (.list (zs.map .str))), some (.p (.list (sts.map stP))), some (.cell (rest.length + 1)), some (.p (.int (dn.length : Nat))), some (.p (stP u)), some (.p (.list (own.map stP))), some (.p (.list ([(u.1, u.2.1, 199), (0, "zzzzzzzz", 7)].map stP))), o9, o10, o11, o12]) (h' := h') ?_ ?_
        · simp [l3, l2, tupD, plain, stP]
        refine seqW (μ' := [some (.cell 0), some (.p (.int many)), some (.p (.list (zs.map .str))), some (.p (.list (sts.map stP))), some (.cell (rest.length + 1)), some (.p (.int (dn.length : Nat))), some (.p (stP u)), some (.p (.list (own.map stP))), some (.p (.list (([(u.1, u.2.1, 199), (0, "zzzzzzzz", 7)] ++ (cutP own (some (-2)) none).map backS).map stP))), o9, o10, o11, o12]) (h' := h') ?_ ?_
        · simp [w_cmpE, wipeE, cut_map]
          simp only [List.map_cons, List.map_nil] at ec2
          rw [e', w_of ec2, plain_mapf]
          simp
          omega
        have lfar : ([(u.1, u.2.1, 199), (0, ("zzzzzzzz" : Str), 7)] ++ (cutP own (some (-2)) none).map backS).length ≤ 50 := by simp; omega
        generalize [(u.1, u.2.1, 199), (0, ("zzzzzzzz" : Str), 7)] ++ (cutP own (some (-2)) none).map backS = far at gfar lfar
        simp [w_cmpE, wipeE, cut_map]
        refine ⟨l6, pen_take pp (by omega) (by decide) fun i6 h6 c0 c1 p6 => ?_⟩
        obtain ⟨x, ⟨ys, rfl, ly, gy⟩, ex⟩ := pick_all (xs := [.list ((cutP own (some (-1)) none).map stP), .list ((cutP own (some (-2)) none).map stP), .list (own.map stP), .list (own.map stP), .list (sts.map stP), .list (far.map stP)]) c0 c1 (fun x => ∃ ys : List St, x = .list (ys.map stP) ∧ ys.length ≤ 50 ∧ ∀ y ∈ ys, GSt y) (by
          have l1' := cut_len own (some (-1)) none
          intro x hx
          simp only [List.mem_cons, List.not_mem_nil, or_false] at hx
          rcases hx with rfl | rfl | rfl | rfl | rfl | rfl
          · exact ⟨_, rfl, by omega, fun y hy => hown y (cut_mem hy)⟩
          · exact ⟨_, rfl, by omega, fun y hy => hown y (cut_mem hy)⟩
          · exact ⟨_, rfl, by omega, hown⟩
          · exact ⟨_, rfl, by omega, hown⟩
          · exact ⟨_, rfl, by omega, gS⟩
          · exact ⟨_, rfl, by omega, gfar⟩)
        have shy : PySem.SeqAt.shaped (.list (ys.map stP)) = true := (Ok.lst (d := 1) (w := 153) (n := 50) (xs := ys.map stP) (fun x hx => by
          obtain ⟨s, hs, rfl⟩ := List.mem_map.mp hx
          exact ok_st (gy s hs)) (by simpa using ly)).shaped_ (by omega)
        have sh0 : PySem.SeqAt.shaped (.list []) = true := by decide
        have eqv0 : (PyData.list (ys.map stP)).eqv (.list []) = ys.isEmpty := by cases ys <;> rfl
        have fin_ : ∀ (x : PyData) (h9 : Hm) (m : Int), m ≤ 4 → UW x → Pen (n + 12 + 4 * many + 4 * dn.length + m) (rest ++ [.lst ((dn.map dP).map .p)]) h9 →
            isTyD "list" h9 (.cell (rest.length + 1)) = true ∧ ∃ xs, h9[rest.length + 1]? = some (C.lst xs) ∧ xs.length < sizeLine ∧ ∃ (dn' : List Dd) (us' : List St), enuT (dn.length + 1) (us.map stP) = enuT dn'.length (us'.map stP) ∧ sts = dn'.map (fun x => x.1) ++ us' ∧ (∀ (a : Int) (b : Str) (c : Int) (x : PyData), ((a, b, c), x) ∈ dn' → UW x) ∧ Pen (n + 12 + 4 * many + 4 * (dn'.length : Int)) (rest ++ [C.lst (dn'.map (D.p ∘ dP))]) (h9.set (rest.length + 1) (C.lst (xs ++ [D.p (.tuple [stP u, x])]))) := fun x h9 m hm' hx pp => by
          have gg := pp.get
          refine ⟨by simp [isTyD, gg], _, gg, ?_, dn ++ [(u, x)], us, ?_, ?_, ?_, ?_⟩
          · have := congrArg List.length es
            simp only [List.length_append, List.length_map, List.length_cons] at this ⊢
            omega
          · simp
          · rw [es]; simp
          · intro a b c y hy
            rcases List.mem_append.mp hy with hy | hy
            · exact gd _ hy
            · rw [List.mem_singleton] at hy
              cases hy
              exact hx
          · have := pp.put (C.lst ((dn ++ [(u, x)]).map (D.p ∘ dP)))
            simp only [List.map_append, List.map_cons, List.map_nil, List.map_map] at this ⊢
            refine this.le ?_
            simp only [List.length_append, List.length_cons, List.length_nil]
            omega
        simp [ex, ez0, l2, shy, sh0, eqv0, twoS]
        by_cases y0 : ys = []
        · subst y0
          simp [tupD]
          have := fin_ _ _ 1 (by omega) (.inl ⟨z0, w8 _ mz0, rfl⟩) p6
          exact this
        · have lp : 0 < ys.length := List.length_pos_iff.mpr y0
          simp [y0]
          refine pen_take p6 (by omega) (by decide) fun i7 h7 d0 d1 p7 => ?_
          simp
          by_cases y7 : 0 < i7
          · simp [y7]
            refine pen_take p7 (by omega) (by omega) fun i8 h8 f0 f1 p8 => ?_
            obtain ⟨x, ⟨a, ha, rfl⟩, ex⟩ := pick_all (xs := ys.map stP) f0 (by simpa using f1) (fun x => ∃ a, GSt a ∧ x = stP a) (by
              intro x hx
              obtain ⟨a, ha, rfl⟩ := List.mem_map.mp hx
              exact ⟨a, gy a ha, rfl⟩)
            simp [ex, l2, tupD]
            exact fin_ _ _ 3 (by omega) (.inr ⟨a, ha, rfl⟩) (p8.le (by omega))
          · simp [y7, tupD]
            exact fin_ _ _ 2 (by omega) (.inl ⟨z0, w8 _ mz0, rfl⟩) (p7.le (by omega))
end
end G
/-! k14: undone, as it runs -/
namespace G
open MP
open PySem (PyData Str sizeLine NestedKey)
section
variable {h : Hm}
theorem stamps_of_run {log : List Dd} (hl : log.length ≤ 1000) : F0_stamps_of [.p (.list (log.map dP))] h = .ok (.p (.list ((log.map (·.1)).map stP))) h := by
  refine run_of ?_
  unfold F0_stamps_of
  rw [w_fun]
  have hL : (2000 : Nat) ≤ sizeLine := by decide
  have ec := cmpL_map (g := gUn 2 (gCn (gNm 1) (gCn (gNm 2) gNl))) (tt := yesT) (te := var 1) (μ := [some (.p (.list (log.map dP))), none, none]) (h := h) (fun d : Dd => D.p (dP d)) (fun _ => true) (fun d => D.p (stP d.1)) log fun d hd => ⟨_, rfl, rfl, fun _ => rfl⟩
  rw [List.filter_eq_self.mpr fun _ _ => rfl] at ec
  have e' : List.map (D.p ∘ dP) log = List.map (fun s => D.p (dP s)) log := rfl
  simp [B_stamps_of, w_cmpE, wipeE]
  rw [e', w_of ec, plain_mapf]
  simp
  omega
def trD : Unit → D := fun _ => .p (.bool true)
def allS (ss : List St) (ps : List (St × Unit)) : List (St × Unit) := ss.foldl (fun ps s => putS ps s ()) ps
theorem allS_find : ∀ (ss : List St) (ps : List (St × Unit)) (t : St), (findS (allS ss ps) t).isSome = (decide (t ∈ ss) || (findS ps t).isSome)
  | [], ps, t => by simp [allS]
  | s :: ss, ps, t => by
    have := allS_find ss (putS ps s ()) t
    unfold allS at this ⊢
    rw [List.foldl_cons, this, findS_put]
    by_cases q : t = s
    · subst q; simp
    · simp [q]
theorem cmpD_run {μ : Ev} (hμ : 3 < μ.length) : ∀ (ss : List St) (ps : List (St × Unit)), ps.length + ss.length ≤ 1000 → cmpDL (gNm 3) yesT (var 3) (cst (.bool true)) μ (ss.map fun s => D.p (stP s)) (kvD trD ps) h = .ok (kvD trD (allS ss ps)) h
  | [], ps, _ => rfl
  | s :: ss, ps, hl => by
    have ih := cmpD_run hμ ss (putS ps s ()) (by have := putS_len ps s (); simp only [List.length_cons] at hl; omega)
    have hL : (2000 : Nat) ≤ sizeLine := by decide
    simp only [List.length_cons] at hl
    refine run_of ?_
    rw [List.map_cons]
    show W (bnd (yesT (μ.set 3 (some (D.p (stP s))))) (fun b => if b = true then bnd (var 3 (μ.set 3 (some (D.p (stP s))))) fun kd => bnd (cst (.bool true) (μ.set 3 (some (D.p (stP s))))) fun v => (match kd with
        | .p q => (match tk q with
          | some k => chk ((kvD trD ps).length < sizeLine) (cmpDL (gNm 3) yesT (var 3) (cst (.bool true)) μ (ss.map fun s => D.p (stP s)) (dputL nkD (kvD trD ps) k q v))
          | none => bad)
        | _ => bad) else cmpDL (gNm 3) yesT (var 3) (cst (.bool true)) μ (ss.map fun s => D.p (stP s)) (kvD trD ps))) h _
    have ev : var 3 (μ.set 3 (some (D.p (stP s)))) = ret (D.p (stP s)) := by
      match μ, hμ with
      | a :: b :: c :: d :: r, _ => rfl
    simp only [w_bnd, w_yesT, if_true, ev, w_ret, cst_eq]
    show W (match tk (stP s) with
      | some k => chk ((kvD trD ps).length < sizeLine) (cmpDL (gNm 3) yesT (var 3) (cst (.bool true)) μ (ss.map fun s => D.p (stP s)) (dputL nkD (kvD trD ps) k (stP s) (.p (.bool true))))
      | none => bad) h _
    rw [tk_st]
    simp only [w_chk]
    refine ⟨by simp [kvD]; omega, ?_⟩
    have ep : dputL nkD (kvD trD ps) (nks s) (stP s) (.p (.bool true)) = kvD trD (putS ps s ()) := put_kv (f := trD) ps s ()
    rw [ep, w_of ih]
    exact ⟨rfl, rfl⟩
/-- the stamps that are there, as a dict -/
def thereP (ps : List (St × Unit)) : PyData := .dict (ps.map fun p => (stP p.1, .bool true))
theorem there_look (ps : List (St × Unit)) (s : St) : dlook h (.p (thereP ps)) (stP s) = some ((findS ps s).map trD) := by
  unfold thereP dlook
  dsimp only
  rw [if_pos (by simp [tk_st])]
  unfold lookR
  simp only [tk_st, Option.map_some, Option.map_map]
  have : dfind nkD (ps.map fun p => (stP p.1, PyData.bool true)) (nks s) = (findS ps s).map fun _ => PyData.bool true := by
    induction ps with
    | nil => rfl
    | cons p ps ih =>
      rw [List.map_cons, dfind_cons, findS_cons, ih]
      simp only [nk_dec]
      split <;> rfl
  rw [this, Option.map_map]
  rfl
def mayB (In : St → Bool) (d : Dd) : Bool := match aimOf d.2 with
  | some a => In a && (decide (a.2.1 = d.1.2.1) && decide (stLt a d.1))
  | none => false
theorem may_run {ps : List (St × Unit)} {d : Dd} (hd : UW d.2) : F0_may_undo [.p (thereP ps), .p (stP d.1), .p d.2] h = .ok (.p (.bool (mayB (fun s => (findS ps s).isSome) d))) h := by
  refine run_of ?_
  unfold F0_may_undo
  rw [w_fun]
  obtain ⟨s, x⟩ := d
  simp only at hd ⊢
  rcases hd with ⟨z, hz, rfl⟩ | ⟨a, ha, rfl⟩
  · have e : aimOf (.tuple [.str "sheet", .str z]) = none := rfl
    have ne : ¬ (PySem.Str.ofString "sheet" = PySem.Str.ofString "undo") := by decide +kernel
    simp [B_may_undo, starD, itemsS, gCn, gNm, gNl, mayB, e, plain, twoS, eqv_str, ne]
  · have e : aimOf (.tuple [.str "undo", stP a]) = some a := by
      obtain ⟨t, z, n⟩ := a
      simp [aimOf, stP]
    have dp : (stP a).depth ≤ 60 := by simp only [stP, PyData.depth, PyData.depthAll]; omega
    have nn : notNone (stP a) = true := rfl
    have lt : ltG (stP a) (stP s) = decide (stLt a s) := lt_st a s
    simp [B_may_undo, starD, itemsS, gCn, gNm, gNl, mayB, e, plain, twoS, eqv_str, there_look, alike_st, dp, nn, lt]
    cases findS ps a with
    | none => simp
    | some u => 
      by_cases q : a.2.1 = s.2.1
      · simp [q]
      · simp [q]
theorem fnd_cons (In : St → Bool) (d : Dd) (r : List Dd) (s : St) : fnd In (d :: r) s = if ((fnd In r d.1).isNone && mayB In d) = true ∧ aimOf d.2 = some s then some d.1 else fnd In r s := rfl
theorem w_itRevL {xs : List PyData} {f : Ev → M D} {μ : Ev} {Q : List D → Hm → Prop} (w : W (f μ) h fun d h' => d = .p (.list xs) ∧ Q (xs.map D.p).reverse h') : W (itRev f μ) h Q := by
  unfold itRev
  rw [w_bnd]
  refine w.mono ?_
  rintro d h' ⟨rfl, q⟩
  exact w_ret.mpr q
theorem mkD_there (ps : List (St × Unit)) : mkDct (kvD trD ps) = ret (.p (thereP ps)) := by
  have e : plain ((kvD trD ps).map (·.2)) = some (ps.map fun _ => PyData.bool true) := by
    simp only [kvD, List.map_map]
    exact plain_mapf (fun _ : St × Unit => PyData.bool true) ps
  unfold mkDct
  rw [e]
  have : ((kvD trD ps).map (·.1)).zip (ps.map fun _ => PyData.bool true) = ps.map fun p => (stP p.1, PyData.bool true) := by
    induction ps with
    | nil => rfl
    | cons p ps ih =>
      simp only [kvD, List.map_cons, List.zip_cons_cons] at ih ⊢
      rw [ih (by simp only [List.map_map]; exact plain_mapf (fun _ : St × Unit => PyData.bool true) ps)]
  simp only [this]
  rfl
abbrev InL (log : List Dd) : St → Bool := fun s => (findS (allS (log.map (·.1)) []) s).isSome
theorem undone_w {log : List Dd} (hl : log.length ≤ 100) (hu : ∀ d ∈ log, UW d.2) : W (B_undone [some (.p (.list (log.map dP))), none, none, none, none]) h fun o h' => ∃ ps : List Dd, o = .rt (.cell h.length) ∧ h' = h ++ [.dct true (kvD D.p ps)] ∧ UK ps ∧ (∀ s, findS ps s = (fnd (InL log) log s).map stP) ∧ ps.length ≤ log.length := by
  have hL : (2000 : Nat) ≤ sizeLine := by decide
  unfold B_undone
  refine seqW (μ' := [some (.p (.list (log.map dP))), some (.p (thereP (allS (log.map (·.1)) []))), none, none, none]) (h' := h) ?_ ?_
  · have ec := cmpD_run (h := h) (μ := [some (.p (.list (log.map dP))), none, none, none, none]) (by simp) (log.map (·.1)) [] (by simp; omega)
    simp only [w_seti, cmpDE, w_bnd, w_itA, w_appN, w_aCons, w_aNil, var_zero, w_ret, List.length_cons, List.length_nil]
    refine ⟨trivial, ?_⟩
    rw [w_of (stamps_of_run (by omega)), isA_l]
    simp only [w_nox, wipeE, List.set_cons_succ, List.set_cons_zero, List.map_map]
    have e' : List.map (D.p ∘ stP ∘ fun x : Dd => x.1) log = (log.map (·.1)).map fun s => D.p (stP s) := by rw [List.map_map]; rfl
    have ek : kvD trD [] = [] := rfl
    rw [ek] at ec
    rw [e', w_of ec, mkD_there]
    simp
  refine seqW (μ' := [some (.p (.list (log.map dP))), some (.p (thereP (allS (log.map (·.1)) []))), some (.cell h.length), none, none]) (h' := h ++ [.dct true []]) (by simp) ?_
  rw [w_seq, w_for]
  refine w_itRevL (xs := log.map dP) ?_
  simp only [var_zero, w_ret, true_and]
  refine w_forI (fun ds μ h' => ∃ (us done ps : List Dd) (o3 o4 : Option D), ds = ((us.map dP).map D.p).reverse ∧ us ++ done = log ∧ h' = h ++ [.dct true (kvD D.p ps)] ∧ UK ps ∧ (∀ s, findS ps s = (fnd (InL log) done s).map stP) ∧ ps.length ≤ done.length ∧ μ = [some (.p (.list (log.map dP))), some (.p (thereP (allS (log.map (·.1)) []))), some (.cell h.length), o3, o4]) ?_ ?_ _ _ _ ⟨log, [], [], none, none, rfl, by simp, rfl, uk_nil, fun _ => rfl, Nat.le_refl _, rfl⟩
  · rintro μ h' ⟨us, done, ps, o3, o4, eu, ed, rfl, uk, fs, lp, rfl⟩
    have us0 : us = [] := by simpa using eu.symm
    subst us0
    rw [List.nil_append] at ed
    subst ed
    simp
    exact ⟨ps, rfl, uk, fun a b c => fs (a, b, c), lp⟩
  · rintro d ds μ h' ⟨us, done, ps, o3, o4, eu, ed, rfl, uk, fs, lp, rfl⟩
    rcases List.eq_nil_or_concat us with rfl | ⟨us', x, rfl⟩
    · simp at eu
    simp only [List.concat_eq_append, List.map_append, List.map_cons, List.map_nil, List.reverse_append, List.reverse_cons, List.reverse_nil, List.nil_append, List.cons_append, List.cons.injEq] at eu
    obtain ⟨rfl, rfl⟩ := eu
    simp only [List.concat_eq_append, List.append_assoc, List.cons_append, List.nil_append] at ed
    have hx : UW x.2 := hu x (by rw [← ed]; simp)
    have ld : done.length + 1 ≤ log.length := by rw [← ed]; simp
    have gg : (h ++ [C.dct true (kvD D.p ps)])[h.length]? = some (.dct true (kvD D.p ps)) := by simp
    have look : dlook (h ++ [C.dct true (kvD D.p ps)]) (.cell h.length) (stP x.1) = some ((findS ps x.1).map D.p) := by
      rw [dlook_cell gg]
      show (tk (stP x.1)).map _ = _
      rw [tk_st, Option.map_some, find_kvS]
    refine ⟨[some (D.p (.list (log.map dP))), some (.p (thereP (allS (log.map (·.1)) []))), some (.cell h.length), some (.p (stP x.1)), some (.p x.2)], rfl, ?_⟩
    have mr := may_run (h := h ++ [C.dct true (kvD D.p ps)]) (ps := allS (log.map (·.1)) []) (d := x) hx
    have fx := fs x.1
    by_cases e0 : ((fnd (InL log) done x.1).isNone && mayB (InL log) x) = true
    · simp only [Bool.and_eq_true] at e0
      have fn : findS ps x.1 = none := by
        rw [fx]
        cases hh : fnd (InL log) done x.1 with
        | none => rfl
        | some y => rw [hh] at e0; exact absurd e0.1 (by simp)
      have may := e0.2
      obtain ⟨a, ha, e2⟩ : ∃ a, GSt a ∧ x.2 = .tuple [.str "undo", stP a] := by
        rcases hx with ⟨z, hz, e⟩ | h
        · exfalso
          have e3 : aimOf x.2 = none := by rw [e]; rfl
          unfold mayB at may
          rw [e3] at may
          exact absurd may (by simp)
        · exact h
      have e3 : aimOf x.2 = some a := by
        rw [e2]
        obtain ⟨t, z, n⟩ := a
        simp [aimOf, stP]
      refine cutW (a := .nx [some (D.p (.list (log.map dP))), some (.p (thereP (allS (log.map (·.1)) []))), some (.cell h.length), some (.p (stP x.1)), some (.p x.2)]) (h' := h ++ [C.dct true (kvD D.p (putS ps a (stP x.1)))]) ?_ ?_
      rotate_left
      · rw [rnd_nx]
        refine ⟨us', x :: done, putS ps a (stP x.1), _, _, rfl, ed, rfl, uk_put uk _ _, ?_, ?_, rfl⟩
        · intro s
          rw [findS_put, fs, fnd_cons, e3]
          have e00 : ((fnd (InL log) done x.1).isNone && mayB (InL log) x) = true := by rw [e0.1, e0.2]; rfl
          by_cases q : s = a
          · subst q; rw [if_pos rfl, if_pos ⟨e00, rfl⟩]; rfl
          · have q' : ¬ (some a = some s) := fun z => q (Option.some.inj z).symm
            rw [if_neg q, if_neg (fun z => q' z.2)]
        · have := putS_len ps a (stP x.1)
          simp only [List.length_cons]
          omega
      · simp [look, fn]
        rw [w_of mr, may]
        simp
        rw [e2]
        simp
        rw [w_dputT gg (tk_st a) (by simp [kvD]; omega), put_kv]
        simp
    · refine cutW (a := .nx [some (D.p (.list (log.map dP))), some (.p (thereP (allS (log.map (·.1)) []))), some (.cell h.length), some (.p (stP x.1)), some (.p x.2)]) (h' := h ++ [C.dct true (kvD D.p ps)]) ?_ (by rw [rnd_nx]; exact ⟨us', x :: done, ps, _, _, rfl, ed, rfl, uk, fun s => by rw [fs, fnd_cons, if_neg (fun z => e0 z.1)], by simp only [List.length_cons]; omega, rfl⟩)
      cases hh : fnd (InL log) done x.1 with
      | some y =>
        rw [hh] at fx
        simp [look, fx]
      | none =>
        rw [hh] at fx e0
        have may : mayB (InL log) x = false := by simpa using e0
        simp [look, fx]
        rw [w_of mr, may]
        simp
end
end G
/-! k14: the law's namers, with what they keep -/
namespace G
open MP
open PySem (PyData Str sizeLine NestedKey)
theorem rd2_cell {α : Type} {g : PyData → PyData → M α} {h : Hm} {k : Nat} {x y : PyData} {Q : α → Hm → Prop} (e : lookD h (.cell k) = some x) : W (rd2 g (.cell k) (.p y)) h Q ↔ W (g x y) h Q := by
  have e2 : lookD h (.p y) = some y := rfl
  rw [w_def, w_def]
  unfold rd2
  rw [e, e2]
theorem eqv_uw {x : PyData} (h : UW x) (s : St) : x.eqv (.tuple [.str "undo", stP s]) = decide (aimOf x = some s) := by
  rcases h with ⟨z, hz, rfl⟩ | ⟨a, ha, rfl⟩
  · have e : aimOf (.tuple [.str "sheet", .str z]) = none := rfl
    have ne : ¬ (PySem.Str.ofString "sheet" = PySem.Str.ofString "undo") := by decide +kernel
    rw [e]
    simp [PyData.eqv, PyData.eqvAll, ne]
  · have e : aimOf (.tuple [.str "undo", stP a]) = some a := by
      obtain ⟨t, z, n⟩ := a
      simp [aimOf, stP]
    rw [e]
    have := eqv_st a s
    simp [PyData.eqv, PyData.eqvAll, this]
theorem cnt_lt {α : Type} {p q : α → Bool} : ∀ {xs : List α}, (∀ x ∈ xs, p x = true → q x = true) → (∃ x ∈ xs, p x = false ∧ q x = true) → (xs.filter p).length < (xs.filter q).length
  | [], _, ⟨x, hx, _⟩ => by cases hx
  | y :: xs, h, hx => by
    have le : ∀ {xs : List α}, (∀ x ∈ xs, p x = true → q x = true) → (xs.filter p).length ≤ (xs.filter q).length := by
      intro xs
      induction xs with
      | nil => intro _; exact Nat.le_refl _
      | cons y xs ih =>
        intro h
        have ih := ih fun x hx => h x (List.mem_cons_of_mem _ hx)
        have hy := h y (List.mem_cons_self ..)
        rw [List.filter_cons, List.filter_cons]
        by_cases py : p y = true
        · rw [if_pos py, if_pos (hy py)]; simp only [List.length_cons]; omega
        · rw [if_neg py]; split <;> (try simp only [List.length_cons]) <;> omega
    have h' := fun x hx => h x (List.mem_cons_of_mem y hx)
    have l := le h'
    obtain ⟨x, hx, px, qx⟩ := hx
    rw [List.filter_cons, List.filter_cons]
    rcases List.mem_cons.mp hx with rfl | hx
    · rw [if_neg (by simp [px]), if_pos qx]; simp only [List.length_cons]; omega
    · have ih := cnt_lt h' ⟨x, hx, px, qx⟩
      have hy := h y (List.mem_cons_self ..)
      by_cases py : p y = true
      · rw [if_pos py, if_pos (hy py)]; simp only [List.length_cons]; omega
      · rw [if_neg py]; split <;> (try simp only [List.length_cons]) <;> omega
def above (L : List Dd) (s : St) : Nat := (L.filter fun x => decide (stLt s x.1)).length
theorem above_lt {L : List Dd} {s : St} {e : Dd} (he : e ∈ L) (h : stLt s e.1) : above L e.1 < above L s :=
  cnt_lt (fun x _ hx => decide_eq_true (stLt_trans h (of_decide_eq_true hx))) ⟨e, he, decide_eq_false (stLt_irrefl _), decide_eq_true h⟩
/-- the heap while the namers are told -/
structure KS (L : List Dd) (h0 : Hm) (fd : C) (ps : List (St × Nat)) (h : Hm) : Prop where
  t : h.take h0.length = h0
  k : h[h0.length]? = some (.dct true (kvD D.cell ps))
  f : h[h0.length + 1]? = some fd
  u : UK ps
  v : ∀ p ∈ ps, p.1 ∈ L.map (·.1) ∧ h0.length + 2 ≤ p.2 ∧ h[p.2]? = some (.lst (((nm L p.1).map stP).map D.p))
variable {L : List Dd} {h0 : Hm} {fd : C} {ps : List (St × Nat)} {h : Hm}
theorem KS.len (K : KS L h0 fd ps h) : h0.length + 2 ≤ h.length := by
  have := (List.getElem?_eq_some_iff.mp K.f).1
  omega
theorem KS.few (K : KS L h0 fd ps h) : ps.length ≤ L.length := by
  have := uk_len K.u (ss := L.map (·.1)) fun p hp => (K.v p hp).1
  simpa using this
theorem KS.push (K : KS L h0 fd ps h) (c : C) : KS L h0 fd ps (h ++ [c]) := by
  have l := K.len
  have g : ∀ {j : Nat} {x : C}, h[j]? = some x → (h ++ [c])[j]? = some x := fun {j x} e => by
    rw [List.getElem?_append_left (List.getElem?_eq_some_iff.mp e).1, e]
  exact ⟨by rw [List.take_append_of_le_length (by omega)]; exact K.t, g K.k, g K.f, K.u, fun p hp => ⟨(K.v p hp).1, (K.v p hp).2.1, g (K.v p hp).2.2⟩⟩
theorem KS.setL (K : KS L h0 fd ps h) {j : Nat} (hj : h0.length + 2 ≤ j) (hp : ∀ p ∈ ps, p.2 ≠ j) (c : C) : KS L h0 fd ps (h.set j c) := by
  have g : ∀ {i : Nat} {x : C}, i ≠ j → h[i]? = some x → (h.set j c)[i]? = some x := fun {i x} n e => by
    rw [List.getElem?_set_ne (Ne.symm n), e]
  exact ⟨by rw [List.take_set_of_le (by omega)]; exact K.t, g (by omega) K.k, g (by omega) K.f, K.u, fun p hq => ⟨(K.v p hq).1, (K.v p hq).2.1, g (hp p hq) (K.v p hq).2.2⟩⟩
theorem KS.put (K : KS L h0 fd ps h) {s : St} {j : Nat} (hs : s ∈ L.map (·.1)) (hj : h0.length + 2 ≤ j) (e : h[j]? = some (.lst (((nm L s).map stP).map D.p))) : KS L h0 fd (putS ps s j) (h.set h0.length (.dct true (kvD D.cell (putS ps s j)))) := by
  have l := K.len
  have g : ∀ {i : Nat} {x : C}, i ≠ h0.length → h[i]? = some x → (h.set h0.length (.dct true (kvD D.cell (putS ps s j))))[i]? = some x := fun {i x} n e => by
    rw [List.getElem?_set_ne (Ne.symm n), e]
  refine ⟨by rw [List.take_set_of_le (by omega)]; exact K.t, by rw [List.getElem?_set_self (by omega)], g (by omega) K.f, uk_put K.u _ _, fun p hp => ?_⟩
  rcases putS_mem hp with hp | rfl
  · have := (K.v p hp).2.1
    exact ⟨(K.v p hp).1, this, g (by omega) (K.v p hp).2.2⟩
  · exact ⟨hs, hj, g (by omega) e⟩
theorem KS.look (K : KS L h0 fd ps h) (s : St) : dlook h (.cell h0.length) (stP s) = some ((findS ps s).map D.cell) := by
  rw [dlook_cell K.k]
  show (tk (stP s)).map _ = _
  rw [tk_st, Option.map_some, find_kvS]
theorem KS.lst (K : KS L h0 fd ps h) {s : St} {k : Nat} (e : findS ps s = some k) : lookD h (.cell k) = some (.list ((nm L s).map stP)) := lookD_cell (K.v (s, k) ((find_mem K.u).mp e)).2.2 (plain_map _)
/-- older lists stay -/
def Ext2 (n : Nat) (h h' : Hm) : Prop := h.length ≤ h'.length ∧ ∀ j, n ≤ j → j < h.length → h'[j]? = h[j]?
theorem Ext2.refl {n : Nat} {h : Hm} : Ext2 n h h := ⟨Nat.le_refl _, fun _ _ _ => rfl⟩
theorem Ext2.trans {n : Nat} {h h1 h2 : Hm} (a : Ext2 n h h1) (b : Ext2 n h1 h2) : Ext2 n h h2 := ⟨Nat.le_trans a.1 b.1, fun j h1 h2 => by rw [b.2 j h1 (Nat.lt_of_lt_of_le h2 a.1), a.2 j h1 h2]⟩
def New (ps ps' : List (St × Nat)) (n : Nat) : Prop := ∀ p ∈ ps', p ∈ ps ∨ n ≤ p.2
theorem nm_mem (ris : Rising L) {s t : St} (h : t ∈ nm L s) : t ∈ L.map (·.1) := by
  rw [nm_filter ris s L [] rfl] at h
  obtain ⟨d, hd, rfl⟩ := List.mem_map.mp h
  exact List.mem_map_of_mem (List.mem_filter.mp hd).1
theorem nm_len (ris : Rising L) (s : St) : (nm L s).length ≤ L.length := by
  rw [nm_filter ris s L [] rfl, List.length_map]
  exact List.length_filter_le _ _
theorem nm_shaped (ris : Rising L) (hl : L.length ≤ 40) (hu : ∀ d ∈ L, GSt d.1 ∧ UW d.2) (s : St) : PySem.SeqAt.shaped (.list ((nm L s).map stP)) = true :=
  (Ok.lst (d := 1) (w := 153) (n := 40) (xs := (nm L s).map stP) (fun x hx => by
    obtain ⟨t, ht, rfl⟩ := List.mem_map.mp hx
    obtain ⟨d, hd, rfl⟩ := List.mem_map.mp (nm_mem ris ht)
    exact ok_st (hu d hd).1) (by have := nm_len ris s; simp only [List.length_map]; omega)).shaped_ (by omega)
theorem namers_w (ris : Rising L) (hl : L.length ≤ 40) (hu : ∀ d ∈ L, GSt d.1 ∧ UW d.2) : ∀ (m : Nat) (s : St) (ps : List (St × Nat)) (h : Hm) (Q : D → Hm → Prop), above L s < m → s ∈ L.map (·.1) → KS L h0 fd ps h →
    (∀ k h' ps', KS L h0 fd ps' h' → Ext2 (h0.length + 2) h h' → New ps ps' h.length → findS ps' s = some k → Q (.cell k) h') → W (recM leaveK 6 B_law_namers m [.p (.list (L.map dP)), .p (stP s), .cell h0.length]) h Q
  | 0, _, _, _, _, hm, _, _, _ => by omega
  | m + 1, s, ps, h, Q, hm, hs, K, hq => by
    have hL : (2000 : Nat) ≤ sizeLine := by decide
    have l2 : (2 : Nat) ≤ sizeLine := by omega
    have lk := K.look s
    have lK := K.len
    have ih := namers_w ris hl hu m
    rw [recM_succ, w_fun]
    generalize recM leaveK 6 B_law_namers m = R at ih ⊢
    unfold B_law_namers
    have gs : GSt s := by
      obtain ⟨d, hd, rfl⟩ := List.mem_map.mp hs
      exact (hu d hd).1
    have fin_ : ∀ (k : Nat) (h' : Hm) (ps' : List (St × Nat)), KS L h0 fd ps' h' → Ext2 (h0.length + 2) h h' → New ps ps' h.length → findS ps' s = some k → ∃ d, dlook h' (.cell h0.length) (stP s) = some (some d) ∧ Wr (leaveK h.length d h') Q := fun k h' ps' K' E N e => by
      have lk' := K'.look s
      rw [e] at lk'
      exact ⟨_, lk', leaveK_eq.mpr (hq k h' ps' K' E N e)⟩
    rw [w_seq]
    cases es : findS ps s with
    | some k =>
      refine cutW (a := .nx [some (.p (.list (L.map dP))), some (.p (stP s)), some (.cell h0.length), none, none, none]) (h' := h) ?_ ?_
      · rw [es] at lk
        simp [lk]
      · rw [nxt_nx]
        simp
        exact fin_ k h ps K Ext2.refl (fun p hp => .inl hp) es
    | none =>
      rw [es] at lk
      have E0 : Ext2 (h0.length + 2) h (h ++ [.lst []]) := ⟨by simp, fun j _ hj => by rw [List.getElem?_append_left hj]⟩
      have j1 : (h ++ [C.lst []])[h.length]? = some (.lst []) := by simp
      simp [lk, w_for]
      refine w_forI (fun ds μ h' => ∃ (us dn : List Dd) (ps' : List (St × Nat)) (o4 o5 : Option D), ds = us.map (D.p ∘ dP) ∧ dn ++ us = L ∧ KS L h0 fd ps' h' ∧ Ext2 (h0.length + 2) h h' ∧ h.length < h'.length ∧ h'[h.length]? = some (.lst ((((dn.filter fun d => nam d s && (nm L d.1).isEmpty).map (·.1)).map stP).map D.p)) ∧ New ps ps' (h.length + 1) ∧ μ = [some (.p (.list (L.map dP))), some (.p (stP s)), some (.cell h0.length), some (.cell h.length), o4, o5]) ?_ ?_ _ _ _ ⟨L, [], ps, none, none, rfl, rfl, K.push _, E0, by simp, j1, fun p hp => .inl hp, rfl⟩
      · rintro μ h' ⟨us, dn, ps', o4, o5, eu, ed, K', E', lh, ej, N', rfl⟩
        have us0 : us = [] := by simpa using eu.symm
        subst us0
        rw [List.append_nil] at ed
        subst ed
        rw [← nm_filter ris s dn [] rfl] at ej
        have K2 := K'.put hs lK ej
        have few := K'.few
        simp
        rw [w_dputT K'.k (tk_st s) (by simp [kvD]; omega), put_kv]
        refine fin_ h.length _ _ K2 ?_ ?_ ?_
        · refine E'.trans ⟨by simp, fun j a b => ?_⟩
          rw [List.getElem?_set_ne (by omega)]
        · intro p hp
          rcases putS_mem hp with hp | rfl
          · rcases N' p hp with hp | hp
            · exact .inl hp
            · exact .inr (by omega)
          · exact .inr (Nat.le_refl _)
        · rw [findS_put, if_pos rfl]
      · rintro d ds μ h' ⟨us, dn, ps', o4, o5, eu, ed, K', E', lh, ej, N', rfl⟩
        cases us with
        | nil => simp at eu
        | cons e us =>
          simp only [List.map_cons, Function.comp, List.cons.injEq] at eu
          obtain ⟨rfl, rfl⟩ := eu
          refine ⟨[some (.p (.list (L.map dP))), some (.p (stP s)), some (.cell h0.length), some (.cell h.length), some (.p (stP e.1)), some (.p e.2)], rfl, ?_⟩
          have he : e ∈ L := by rw [← ed]; simp
          obtain ⟨ge, ue⟩ := hu e he
          have shx := (ok_uw ue).shaped_ (by omega)
          have shu := (ok_uw (x := .tuple [.str "undo", stP s]) (.inr ⟨s, gs, rfl⟩)).shaped_ (by omega)
          have dp : (stP s).depth ≤ 60 := by simp only [stP, PyData.depth, PyData.depthAll]; omega
          have nn : notNone (stP s) = true := rfl
          have lt : ltG (stP s) (stP e.1) = decide (stLt s e.1) := lt_st s e.1
          have old : ∀ p ∈ ps, p.2 < h.length := fun p hp => (List.getElem?_eq_some_iff.mp (K.v p hp).2.2).1
          have cond : W (andT (tstB (bin (rd2 (eqP false)) (var 5) (tupE (aCons (cst (.str "undo")) (aCons (var 1) aNil))))) (andT (tstB (bin (rd2 (eqP false)) (bin idxD (var 4) (cst (.int 1))) (bin idxD (var 1) (cst (.int 1))))) (tstB (bin (rd2 (ordG ltG)) (var 1) (var 4)))) [some (.p (.list (L.map dP))), some (.p (stP s)), some (.cell h0.length), some (.cell h.length), some (.p (stP e.1)), some (.p e.2)]) h' fun b h2 => b = nam e s ∧ h2 = h' := by
            have q0 := eqv_uw ue s
            simp [l2, tupD, shx, shu, q0, twoS, eqv_str, alike_st, dp, nn, lt, nam]
            by_cases c1 : aimOf e.2 = some s
            · by_cases c2 : e.1.2.1 = s.2.1
              · simp [c1, c2]
              · simp [c1, c2]
            · simp [c1]
          rw [w_sif]
          refine cutW cond ?_
          by_cases c : nam e s = true
          · have cl : stLt s e.1 := by
              simp only [nam, Bool.and_eq_true, decide_eq_true_eq] at c
              exact c.2.2
            simp [c]
            refine ih e.1 ps' h' _ (by have := above_lt he cl; omega) (List.mem_map_of_mem he) K' fun k h2 ps2 K2 E2 N2 ek => ?_
            have no : ∀ p ∈ ps2, p.2 ≠ h.length := fun p hp => by
              rcases N2 p hp with hp | hp
              · rcases N' p hp with hp | hp
                · have := old p hp; omega
                · omega
              · omega
            have shl : PySem.SeqAt.shaped (.list ((nm L e.1).map stP)) = true := nm_shaped ris hl hu e.1
            have sh0 : PySem.SeqAt.shaped (.list []) = true := by decide
            have eqv0 : (PyData.list ((nm L e.1).map stP)).eqv (.list []) = (nm L e.1).isEmpty := by cases nm L e.1 <;> rfl
            rw [rd2_cell (K2.lst ek)]
            have ej2 := E2.2 h.length lK lh
            rw [ej] at ej2
            have N3 : New ps ps2 (h.length + 1) := fun p hp => by
              rcases N2 p hp with hp | hp
              · exact N' p hp
              · exact .inr (by omega)
            simp [shl, sh0, eqv0, twoS]
            by_cases en : nm L e.1 = []
            · simp [en, isTyD, ej2]
              have lf := List.length_filter_le (fun d : Dd => nam d s && (nm L d.1).isEmpty) dn
              have ldn : dn.length + (us.length + 1) = L.length := by rw [← ed]; simp
              have E4 := E'.trans E2
              refine ⟨by omega, us, rfl, dn ++ [e], by rw [← ed]; simp, ps2, K2.setL lK no _, ⟨by rw [List.length_set]; exact E4.1, fun j a b => by rw [List.getElem?_set_ne (by omega)]; exact E4.2 j a b⟩, Nat.lt_of_lt_of_le lh E2.1, ?_, N3⟩
              rw [List.getElem?_set_self (Nat.lt_of_lt_of_le lh E2.1)]
              simp [c, en]
            · simp [en]
              exact ⟨us, rfl, dn ++ [e], by rw [← ed]; simp, ps2, K2, E'.trans E2, Nat.lt_of_lt_of_le lh E2.1, by rw [ej2]; simp [en], N3⟩
          · simp [c]
            exact ⟨us, rfl, dn ++ [e], by rw [← ed]; simp, ps', K', E', lh, by rw [ej]; simp [c], N'⟩
end G
/-! k14: what is due -/
namespace G
open MP
open PySem (PyData Str sizeLine NestedKey)
variable {L : List Dd} {h0 : Hm} {fd : C} {ps : List (St × Nat)} {h : Hm}
theorem KS.setF (K : KS L h0 fd ps h) (c : C) : KS L h0 c ps (h.set (h0.length + 1) c) := by
  have l := K.len
  have g : ∀ {i : Nat} {x : C}, i ≠ h0.length + 1 → h[i]? = some x → (h.set (h0.length + 1) c)[i]? = some x := fun {i x} n e => by
    rw [List.getElem?_set_ne (Ne.symm n), e]
  exact ⟨by rw [List.take_set_of_le (by omega)]; exact K.t, g (by omega) K.k, by rw [List.getElem?_set_self (by omega)], K.u, fun p hq => ⟨(K.v p hq).1, (K.v p hq).2.1, g (by have := (K.v p hq).2.1; omega) (K.v p hq).2.2⟩⟩
def dueP (qs : List Dd) : PyData := .dict (qs.map fun p => (stP p.1, p.2))
def dueF (L dn : List Dd) (s : St) : Option PyData := if s ∈ dn.map (·.1) then (nm L s).head?.map stP else none
theorem dueF_app (dn : List Dd) (e : Dd) (s : St) : dueF L (dn ++ [e]) s = if s = e.1 then (nm L e.1).head?.map stP else dueF L dn s := by
  unfold dueF
  by_cases q : s = e.1
  · subst q; simp
  · have : (s ∈ (dn ++ [e]).map (·.1)) ↔ s ∈ dn.map (·.1) := by simp [q]
    rw [if_neg q]
    by_cases c : s ∈ dn.map (·.1)
    · rw [if_pos c, if_pos (this.mpr c)]
    · rw [if_neg c, if_neg (fun z => c (this.mp z))]
theorem due_w {Q : D → Hm → Prop} (ris : Rising L) (hl : L.length ≤ 20) (hu : ∀ d ∈ L, GSt d.1 ∧ UW d.2) (lo : low h.length h = true) (hq : ∀ qs : List Dd, UK qs → (∀ s, findS qs s = dueF L L s) → qs.length ≤ L.length → Q (.p (dueP qs)) h) : W (F0_law_due [.p (.list (L.map dP))]) h Q := by
  unfold F0_law_due
  rw [w_fun]
  have hL : (2000 : Nat) ≤ sizeLine := by decide
  simp [B_law_due, w_for]
  refine w_forI (fun ds μ h' => ∃ (us dn qs : List Dd) (ps : List (St × Nat)) (o3 o4 : Option D), ds = us.map (D.p ∘ dP) ∧ dn ++ us = L ∧ KS L h (.dct true (kvD D.p qs)) ps h' ∧ UK qs ∧ (∀ s, findS qs s = dueF L dn s) ∧ qs.length ≤ dn.length ∧ μ = [some (.p (.list (L.map dP))), some (.cell h.length), some (.cell (h.length + 1)), o3, o4]) ?_ ?_ _ _ _ ⟨L, [], [], [], none, none, rfl, rfl, ⟨by simp, by simp [kvD], by simp [kvD], uk_nil, fun p hp => by cases hp⟩, uk_nil, fun s => by simp [dueF, findS_nil], Nat.le_refl _, rfl⟩
  · rintro μ h' ⟨us, dn, qs, ps, o3, o4, eu, ed, K, uk, fs, lq, rfl⟩
    have us0 : us = [] := by simpa using eu.symm
    subst us0
    rw [List.append_nil] at ed
    subst ed
    have l := K.len
    have ep : plain ((kvD D.p qs).map (·.2)) = some (qs.map (·.2)) := by
      simp only [kvD, List.map_map]
      exact plain_mapf (fun p : Dd => p.2) qs
    have ez : ((kvD D.p qs).map (·.1)).zip (qs.map (·.2)) = qs.map fun p => (stP p.1, p.2) := by
      clear fs lq uk K ep
      induction qs with
      | nil => rfl
      | cons p qs ih =>
        simp only [kvD, List.map_cons, List.zip_cons_cons] at ih ⊢
        rw [ih]
    have ef : frz h.length h' (.cell (h.length + 1)) = some (.p (dueP qs)) := by
      unfold frz
      rw [if_neg (by omega), K.f]
      simp [ep, ez, dueP]
    simp
    unfold leave
    rw [if_neg (by omega), K.t, if_pos lo, ef]
    exact wr_ok.mpr (hq qs uk fs lq)
  · rintro d ds μ h' ⟨us, dn, qs, ps, o3, o4, eu, ed, K, uk, fs, lq, rfl⟩
    cases us with
    | nil => simp at eu
    | cons e us =>
      simp only [List.map_cons, Function.comp, List.cons.injEq] at eu
      obtain ⟨rfl, rfl⟩ := eu
      refine ⟨[some (.p (.list (L.map dP))), some (.cell h.length), some (.cell (h.length + 1)), some (.p (stP e.1)), some (.p e.2)], rfl, ?_⟩
      have he : e ∈ L := by rw [← ed]; simp
      have ldn : dn.length + (us.length + 1) = L.length := by rw [← ed]; simp
      have ab : above L e.1 < 22 := by
        have : above L e.1 ≤ L.length := List.length_filter_le _ _
        omega
      have sh0 : PySem.SeqAt.shaped (.list []) = true := by decide
      have shl := nm_shaped ris (by omega) hu e.1
      have eqv0 : (PyData.list ((nm L e.1).map stP)).eqv (.list []) = (nm L e.1).isEmpty := by cases nm L e.1 <;> rfl
      have ein : ∀ s, (s ∈ (dn ++ [e]).map (·.1)) = (s ∈ dn.map (·.1) ∨ s = e.1) := fun s => by simp
      simp [F0_law_namers]
      refine namers_w ris (by omega) hu 22 e.1 ps h' _ ab (List.mem_map_of_mem he) K fun k h2 ps2 K2 E2 N2 ek => ?_
      rw [rd2_cell (K2.lst ek)]
      have lk := K2.look e.1
      rw [ek] at lk
      simp [shl, sh0, eqv0, twoS]
      cases en : nm L e.1 with
      | nil =>
        rw [if_pos rfl]
        refine ⟨us, rfl, dn ++ [e], by rw [← ed]; simp, qs, ⟨ps2, K2⟩, uk, fun a b c => ?_, by simp; omega⟩
        rw [fs, dueF_app]
        split
        · rename_i q
          rw [q, en]
          simp [dueF, en]
        · rfl
      | cons t r =>
        rw [if_neg (by simp)]
        have ev := (K2.v (e.1, k) ((find_mem K2.u).mp ek)).2.2
        rw [en] at ev
        refine ⟨_, lk, ?_⟩
        simp [ev]
        rw [w_dputT K2.f (tk_st e.1) (by simp [kvD]; omega), put_kv]
        refine ⟨us, rfl, dn ++ [e], by rw [← ed]; simp, putS qs e.1 (stP t), ⟨ps2, K2.setF _⟩, uk_put uk _ _, fun a b c => ?_, ?_⟩
        · rw [findS_put, fs, dueF_app, en]
          rfl
        · have := putS_len qs e.1 (stP t)
          simp; omega
end G
/-! k14: the law -/
namespace G
open MP
open PySem (PyData Str sizeLine NestedKey)
variable {L : List Dd} {h : Hm}
theorem inL_iff (s : St) : InL L s = decide (s ∈ L.map (·.1)) := by
  show (findS (allS (L.map (·.1)) []) s).isSome = _
  rw [allS_find]
  simp [findS_nil]
theorem fnd_due (s : St) : (fnd (InL L) L s).map stP = dueF L L s := by
  rw [fnd_nm L (fun d hd => by rw [inL_iff]; exact decide_eq_true (List.mem_map_of_mem hd)) s, inL_iff]
  unfold dueF
  by_cases q : s ∈ L.map (·.1)
  · rw [if_pos (decide_eq_true q), if_pos q]
  · rw [if_neg (by simpa using q), if_neg q]; rfl
theorem due_val {s : St} {x : PyData} (ris : Rising L) (hu : ∀ d ∈ L, GSt d.1 ∧ UW d.2) (e : dueF L L s = some x) : ∃ t, GSt t ∧ x = stP t := by
  unfold dueF at e
  split at e
  · cases en : nm L s with
    | nil => rw [en] at e; cases e
    | cons t r =>
      rw [en] at e
      have : t ∈ nm L s := by rw [en]; exact List.mem_cons_self ..
      obtain ⟨d, hd, rfl⟩ := List.mem_map.mp (nm_mem ris this)
      exact ⟨d.1, (hu d hd).1, by simpa using e.symm⟩
  · cases e
/-- dicts of this: their pairs can be sorted -/
theorem due_ok {qs : List Dd} (ris : Rising L) (hu : ∀ d ∈ L, GSt d.1 ∧ UW d.2) (uk : UK qs) (fs : ∀ s, findS qs s = dueF L L s) : SortOk (qs.map dP) ∧ ∀ d ∈ qs, GSt d.1 ∧ Ok 1 153 d.2 := by
  have hv : ∀ d ∈ qs, GSt d.1 ∧ Ok 1 153 d.2 := fun d hd => by
    have e := (find_mem uk).mpr (show (d.1, d.2) ∈ qs from hd)
    rw [fs] at e
    obtain ⟨t, gt, e2⟩ := due_val ris hu e
    refine ⟨?_, by rw [e2]; exact ok_st gt⟩
    unfold dueF at e
    split at e
    · rename_i m
      obtain ⟨x, hx, ex⟩ := List.mem_map.mp m
      rw [← ex]
      exact (hu x hx).1
    · cases e
  exact ⟨sortOk_dP uk fun d hd => ⟨(hv d hd).2.2.1, Nat.le_trans (hv d hd).2.1.2.2.1 (by decide)⟩, hv⟩
theorem dP_ok {d : Dd} {w : Nat} {k : Nat} (g : GSt d.1) (o : Ok k w d.2) (hk : 1 ≤ k) (hw : 153 ≤ w) : Ok (k + 1) (2 * (w + 1)) (dP d) := by
  refine Ok.tup (fun x hx => ?_) (by simp)
  simp only [List.mem_cons, List.not_mem_nil, or_false] at hx
  rcases hx with rfl | rfl
  · exact (ok_st g).le hk hw
  · exact o
theorem undone1_w {Q : D → Hm → Prop} (ris : Rising L) (hl : L.length ≤ 20) (hu : ∀ d ∈ L, GSt d.1 ∧ UW d.2) (hq : ∀ ps : List Dd, UK ps → (∀ s, findS ps s = dueF L L s) → ps.length ≤ L.length → Q (.cell h.length) (h ++ [.dct true (kvD D.p ps)])) : W (F1_undone [.p (.list (L.map dP))]) h Q := by
  unfold F1_undone
  rw [w_fun]
  refine (undone_w (h := h) (log := L) (by omega) (fun d hd => (hu d hd).2)).mono ?_
  rintro o h' ⟨ps, rfl, rfl, uk, fs, lp⟩
  rw [fin_rt]
  exact leaveK_eq.mpr (hq ps uk (fun s => by rw [fs, fnd_due]) lp)
theorem undone0_w {Q : D → Hm → Prop} (lo : low h.length h = true) (hq : Q (.p (.dict [])) h) : W (F0_undone [.p (.list [])]) h Q := by
  unfold F0_undone
  rw [w_fun]
  refine (undone_w (h := h) (log := []) (by simp) (fun d hd => by cases hd)).mono ?_
  rintro o h' ⟨ps, rfl, rfl, uk, fs, lp⟩
  have ps0 : ps = [] := by cases ps with
    | nil => rfl
    | cons p ps => simp at lp
  subst ps0
  rw [fin_rt]
  have ef : frz h.length (h ++ [C.dct true (kvD D.p [])]) (.cell h.length) = some (.p (.dict [])) := by
    unfold frz
    rw [if_neg (by omega)]
    simp [kvD, plain]
  unfold leave
  rw [if_neg (by simp), List.take_left, if_pos lo, ef]
  exact wr_ok.mpr hq
def Lw (rest : Hm) : Prop := ∀ k, low k rest = true
theorem Lw.add {rest : Hm} (l : Lw rest) (ps : List Dd) : Lw (rest ++ [.dct true (kvD D.p ps)]) := fun k => by
  have := l k
  simp only [MP.low, List.all_append, Bool.and_eq_true] at this ⊢
  refine ⟨this, ?_⟩
  have := lowDs_p k (ps.map (·.2))
  simp only [List.map_map] at this
  simp [lowC, kvD, List.map_map]
  exact this
theorem log_ok {log : List Dd} (hl : log.length ≤ 20) (hu : ∀ d ∈ log, GSt d.1 ∧ UW d.2) : Ok 4 20000 (.list (log.map dP)) := by
  refine (Ok.lst (d := 3) (w := 802) (n := 20) (fun x hx => ?_) (by simpa using hl)).le (by omega) (by omega)
  obtain ⟨d, hd, rfl⟩ := List.mem_map.mp hx
  exact dP_ok (hu d hd).1 (ok_uw (hu d hd).2) (by omega) (by omega)
theorem law_w {ns : List Int} (hns : ns.length ≤ 63) : W (F0_law [.p (.list (ns.map .int))]) [] fun d h => d = .p (.bool true) := by
  unfold F0_law
  rw [w_fun]
  have hL : (100000 : Nat) ≤ sizeLine := by decide
  simp [B_law, w_for, rngL]
  refine pen_w hns fun h1 p1 => ?_
  refine w_forI (fun ds μ h' => ∃ (rest : Hm) (o2 o3 o4 o5 o6 o7 o8 : Option D), ds.length ≤ 4 ∧ Lw rest ∧ Pen (1000 * (4 - ds.length)) rest h' ∧ μ = [some (.p (.list (ns.map .int))), some (.cell 0), o2, o3, o4, o5, o6, o7, o8]) ?_ ?_ _ _ _ ⟨[], none, none, none, none, none, none, none, by simp, fun k => rfl, p1.le (by simp), rfl⟩
  · rintro μ h' ⟨rest, o2, o3, o4, o5, o6, o7, o8, lu, lw, pp, rfl⟩
    simp
    refine undone0_w (by rw [pp.len]; exact pp.low (lw _)) ?_
    simp [eqE0, emptyD]
    exact leave0 fun _ => rfl
  · rintro d ds μ h' ⟨rest, o2, o3, o4, o5, o6, o7, o8, lu, lw, pp, rfl⟩
    simp only [List.length_cons] at lu pp
    generalize hds : ds.length = ds0 at lu pp ⊢
    refine ⟨[some (.p (.list (ns.map .int))), some (.cell 0), some d, o3, o4, o5, o6, o7, o8], rfl, ?_⟩
    rw [w_seq]
    simp only [w_seti, w_cmpE, w_itA, w_appN, w_aCons, w_aNil, var_zero, var_succ, w_ret, cst_eq, List.length_cons, List.length_nil, true_and]
    refine pen_take pp (by omega) (by decide) fun many h1 a0 a1 p1 => ?_
    refine undos_w p1 (by omega) (by omega) (lw _) fun log0 h2 l0 r0 u0 p2 => ?_
    rw [isA_l]
    have e' : (log0.map dP).map D.p = log0.map (D.p ∘ dP) := by rw [List.map_map]
    rw [e']
    refine w_cmpL (fun ds ys h => ∃ (dn us : List Dd), ds = us.map (D.p ∘ dP) ∧ ys = dn.map (D.p ∘ dP) ∧ (dn ++ us).Sublist log0 ∧ us.length ≤ log0.length ∧ Pen (1000 * (4 - (ds0 + 1)) + 1 + 700 + (log0.length - us.length)) rest h) ?_ _ [] _ _ ⟨[], log0, rfl, rfl, List.Sublist.refl _, Nat.le_refl _, p2.le (by simp)⟩ ?_
    · rintro d ds ys h' ⟨dn, us, eu, rfl, sub, lus, pp⟩
      cases us with
      | nil => simp at eu
      | cons u us =>
        simp only [List.map_cons, Function.comp, List.cons.injEq] at eu
        obtain ⟨rfl, rfl⟩ := eu
        simp only [List.length_cons] at lus pp
        refine ⟨_, rfl, ?_⟩
        simp [wipeE]
        refine pen_take (u := 9) pp (by omega) (by decide) fun k h3 k0 k1 p3 => ?_
        simp
        by_cases q : 0 < k
        · simp [q]
          exact ⟨dn ++ [u], us, rfl, by simp, by simpa using sub, by omega, p3.le (by omega)⟩
        · simp [q]
          exact ⟨dn, us, rfl, rfl, (List.Sublist.append_left (List.sublist_cons_self u us) dn).trans sub, by omega, p3.le (by omega)⟩
    · rintro ys h3 ⟨dn, us, eu, ey, sub, lus, p3⟩
      have us0 : us = [] := by simpa using eu.symm
      subst us0
      rw [List.append_nil] at sub
      simp only [List.nil_append] at ey
      subst ey
      have ris : Rising dn := r0.sublist sub
      have hu : ∀ d ∈ dn, GSt d.1 ∧ UW d.2 := fun d hd => u0 d (sub.subset hd)
      have ldn : dn.length ≤ 20 := by have := sub.length_le; omega
      have okl := log_ok ldn hu
      have oks := okl.show_ (by omega) (by omega)
      have e2 : dn.map (D.p ∘ dP) = (dn.map dP).map D.p := by rw [List.map_map]
      simp only [List.length_nil] at p3
      rw [e2]
      refine w_mkL.mpr ⟨by simp only [List.length_map]; omega, dn.map dP, plain_map _, ?_⟩
      simp only [nxt_nx, List.set_cons_succ, List.set_cons_zero]
      rw [w_seq]
      simp only [w_seti, w_app, w_aCons, w_aNil, var_zero, var_succ, w_ret, w_one, w_reprP]
      refine ⟨oks, ?_⟩
      simp only [nxt_nx, List.set_cons_succ, List.set_cons_zero]
      rw [w_seq]
      simp only [w_seti, w_appN, w_aCons, w_aNil, var_zero, var_succ, w_ret, List.length_cons, List.length_nil, true_and]
      refine due_w ris ldn hu (by rw [p3.len]; exact p3.low (lw _)) fun qs uq fq lq => ?_
      simp only [nxt_nx, List.set_cons_succ, List.set_cons_zero, w_for, w_itR1, w_aCons, w_aNil, cst_eq, w_ret, is1_i]
      refine ⟨by decide, ?_⟩
      obtain ⟨okq, hqv⟩ := due_ok ris hu uq fq
      generalize hn3 : (1000 * (4 - (ds0 + 1)) + 1 + 700 + (log0.length - 0) : Int) = n3 at p3
      have hn3' : n3 ≤ 1000 * (4 - ds0) := by omega
      refine w_forI (fun es μ h' => ∃ (rest' : Hm) (o6 o7 o8 : Option D), Lw rest' ∧ Pen n3 rest' h' ∧ μ = [some (.p (.list (ns.map .int))), some (.cell 0), some d, some (.p (.list (dn.map dP))), some (.p (.str (PyData.shown (.list (dn.map dP))))), some (.p (dueP qs)), o6, o7, o8]) ?_ ?_ _ _ _ ⟨rest, o6, o7, o8, lw, p3, rfl⟩
      · rintro μ h' ⟨rest', o6, o7, o8, lw', p', rfl⟩
        simp only [rnd_nx]
        exact ⟨rest', _, _, _, _, _, _, _, by omega, lw', p'.le hn3', rfl⟩
      · rintro e es μ h' ⟨rest', o6, o7, o8, lw', p', rfl⟩
        refine ⟨[some (.p (.list (ns.map .int))), some (.cell 0), some d, some (.p (.list (dn.map dP))), some (.p (.str (PyData.shown (.list (dn.map dP))))), some (.p (dueP qs)), some e, o7, o8], rfl, ?_⟩
        rw [w_seq]
        simp only [w_seti, w_appN, w_aCons, w_aNil, var_zero, var_succ, w_ret, List.length_cons, List.length_nil, true_and]
        refine undone1_w ris ldn hu fun ps up fp lp => ?_
        have q0 : (h' ++ [C.dct true (kvD D.p ps)])[h'.length]? = some (.dct true (kvD D.p ps)) := by simp
        obtain ⟨okp, _⟩ := due_ok ris hu up fp
        have ep : plain ((kvD D.p ps).map (·.2)) = some (ps.map (·.2)) := by
          simp only [kvD, List.map_map]
          exact plain_mapf (fun p : Dd => p.2) ps
        have edP : ∀ qs : List Dd, ((qs.map fun p => (stP p.1, p.2)).map pairP) = qs.map dP := fun qs => by rw [List.map_map]; rfl
        have ez : ∀ ps : List Dd, ((kvD D.p ps).map (·.1)).zip (ps.map (·.2)) = ps.map fun p => (stP p.1, p.2) := fun ps => by
          induction ps with
          | nil => rfl
          | cons p qs ih =>
            simp only [kvD, List.map_cons, List.zip_cons_cons] at ih ⊢
            rw [ih]
        have dc : dctP (h' ++ [C.dct true (kvD D.p ps)]) (.cell h'.length) = some (ps.map fun p => (stP p.1, p.2)) := by rw [dctP_cell q0 ep, ez]
        have dq : dctP (h' ++ [C.dct true (kvD D.p ps)]) (.p (dueP qs)) = some (qs.map fun p => (stP p.1, p.2)) := by
          show (if ((qs.map fun p => (stP p.1, p.2)).all fun p => (tk p.1).isSome) = true then some (qs.map fun p => (stP p.1, p.2)) else none) = _
          rw [if_pos]
          rw [List.all_map, List.all_eq_true]
          intro p _
          rfl
        have okE : Ok 4 20000 (.list (sortL (qs.map dP))) := by
          refine (Ok.lst (d := 3) (w := 310) (n := 20) (fun x hx => ?_) (by rw [sortL_length, List.length_map]; omega)).le (by omega) (by omega)
          rw [sortL_mem] at hx
          obtain ⟨d, hd, rfl⟩ := List.mem_map.mp hx
          exact (dP_ok (hqv d hd).1 (hqv d hd).2 (by omega) (by omega)).le (by omega) (by omega)
        have shE := okE.shaped_ (by omega)
        have shE0 : PyData.canLay0 (.list (sortL (qs.map dP))) = true := okE.2.1
        have esort : sortL (ps.map dP) = sortL (qs.map dP) := same_sort up uq fun s => by rw [fp, fq]
        have ty : tyN (h' ++ [C.dct true (kvD D.p ps)]) (.cell h'.length) = some "dict" := by simp only [tyN, q0]
        have tyd : isTyD "dict" (h' ++ [C.dct true (kvD D.p ps)]) (.cell h'.length) = true := by simp only [isTyD, q0]; rfl
        simp only [nxt_nx, List.set_cons_succ, List.set_cons_zero]
        refine seqW (μ' := [some (.p (.list (ns.map .int))), some (.cell 0), some d, some (.p (.list (dn.map dP))), some (.p (.str (PyData.shown (.list (dn.map dP))))), some (.p (dueP qs)), some e, some (.cell h'.length), o8]) (h' := h' ++ [C.dct true (kvD D.p ps)]) ?_ ?_
        · simp only [w_sif, w_orT, w_notT, w_tst, w_app, w_aCons, w_aNil, var_zero, var_succ, w_ret]
          rw [w_isi ty (by decide)]
          have e1 : isiT "dict" "dict" = true := by decide
          simp only [e1, truD_b, w_ret, Bool.not_true, Bool.false_eq_true, if_false, w_tstB, w_bin, w_un, var_zero, var_succ]
          rw [w_sortItD dc tyd (by rw [edP]; exact okp), w_sortItD dq rfl (by rw [edP]; exact okq), edP, edP, esort]
          simp only [w_rd2, w_eqP, isB_b]
          refine ⟨.inr ⟨shE, shE⟩, ?_⟩
          rw [PySem.SeqAt.eqv_refl _ shE0]
          simp only [Bool.not_true, if_true, Bool.false_eq_true, if_false, w_app, w_aCons, w_aNil, var_zero, var_succ, w_ret, w_one, w_reprP, w_rd2, w_eqP, isB_b]
          refine ⟨oks, .inl rfl, ?_⟩
          have es : ∀ z : Str, (PyData.str z).eqv (.str z) = true := fun z => by rw [eqv_str]; simp
          rw [es]
          simp
        · have l3 : (3 : Nat) ≤ sizeLine := by decide
          have tk0 : tk (.tuple [.int 0, .str "a", .int 0]) = some (nks (0, "a", 0)) := rfl
          simp only [w_sDput, w_tupE, w_aCons, w_aNil, cst_eq, w_ret, w_mkT, List.length_cons, List.length_nil, var_zero, var_succ]
          refine ⟨l3, l3, ?_⟩
          have t1 : tupD [.p (.int 1), .p (.str "a"), .p (.int 1)] = .p (.tuple [.int 1, .str "a", .int 1]) := rfl
          have t0 : tupD [.p (.int 0), .p (.str "a"), .p (.int 0)] = .p (.tuple [.int 0, .str "a", .int 0]) := rfl
          rw [t1, t0, w_dputT q0 tk0 (by simp [kvD]; omega)]
          simp only [rnd_nx]
          have pk : ∀ c, Pen n3 (rest' ++ [c]) (h' ++ [c]) := fun c => by
            obtain ⟨cs, at_, g, a1, a2, a3, a4, rfl⟩ := p'
            exact ⟨cs, at_, g, a1, a2, a3, a4, rfl⟩
          have pst := put_kv (f := D.p) ps (0, "a", 0) (.tuple [.int 1, .str "a", .int 1])
          rw [show dputL nkD (kvD D.p ps) (nks (0, "a", 0)) (.tuple [.int 0, .str "a", .int 0]) (D.p (.tuple [.int 1, .str "a", .int 1])) = _ from pst]
          have es : (h' ++ [C.dct true (kvD D.p ps)]).set h'.length (.dct true (kvD D.p (putS ps (0, "a", 0) (.tuple [.int 1, .str "a", .int 1])))) = h' ++ [.dct true (kvD D.p (putS ps (0, "a", 0) (.tuple [.int 1, .str "a", .int 1])))] := by
            rw [List.set_append_right _ _ (Nat.le_refl _), Nat.sub_self]; rfl
          rw [es]
          exact ⟨_, _, _, _, lw'.add _, pk _, rfl⟩
theorem law_true (ns : List Int) (h : ns.length ≤ 63) : ∃ h', (MP.nox ∘ G.F0_law) [.p (.list (ns.map .int))] [] = .ok (.p (.bool true)) h' := by
  obtain ⟨d, h', e, rfl⟩ := w_noxc.mpr (law_w h)
  exact ⟨h', e⟩
end G
open PySem PySem.W PyProof.Rows
set_option maxHeartbeats 0 in
theorem PySem.Challenge.cw_sheethouse_k14_undone_deeds_told_holds : PySem.Challenge.rw_sheethouse_k14_undone_deeds_told.Holds := by
  w_on; o_law; k_head; (case hw => w_witness2)
  k_fill
  refine MP.law_end (l := PySem.Challenge.rw_sheethouse_k14_undone_deeds_told) (n := 63) (k := 25) (x := "_law_script") (F := MP.nox ∘ G.F0_law) rfl (by decide) rfl ⟨rfl, by decide, by decide⟩ (fun w h Y => PySem.W.kIn_of Y) ?F G.law_true
  case F =>
    intro w mg fa h KX GX hmg
    refine' G.all_mk KX GX hmg ?a_stamps_of ?l_stamps_of ?c_stamps_of ?k_stamps_of ?a_may_undo ?l_may_undo ?c_may_undo ?k_may_undo ?a_undone ?l_undone ?c_undone ?k_undone ?a_law_pen ?l_law_pen ?c_law_pen ?k_law_pen ?a_law_take ?l_law_take ?c_law_take ?k_law_take ?a_law_words ?l_law_words ?c_law_words ?k_law_words ?a_law_stamps ?l_law_stamps ?c_law_stamps ?k_law_stamps ?a_law_simple ?l_law_simple ?c_law_simple ?k_law_simple ?a_law_drawn ?l_law_drawn ?c_law_drawn ?k_law_drawn ?a_law_undos ?l_law_undos ?c_law_undos ?k_law_undos ?a_law_namers ?l_law_namers ?c_law_namers ?k_law_namers ?a_law_due ?l_law_due ?c_law_due ?k_law_due ?a_law ?l_law ?c_law ?k_law ?m_reversed ?m_len ?m_abs ?m_int ?m_range ?m_max ?m_sorted ?m_enumerate ?m_repr ?m_dict ?m_isinstance
    (case a_stamps_of => k_is)
    (case l_stamps_of => k_is)
    (case c_stamps_of => k_is)
    (case k_stamps_of => k_is)
    (case a_may_undo => k_is)
    (case l_may_undo => k_is)
    (case c_may_undo => k_is)
    (case k_may_undo => k_is)
    (case a_undone => k_is)
    (case l_undone => k_is)
    (case c_undone => k_is)
    (case k_undone => k_is)
    (case a_law_pen => k_is)
    (case l_law_pen => k_is)
    (case c_law_pen => k_is)
    (case k_law_pen => k_is)
    (case a_law_take => k_is)
    (case l_law_take => k_is)
    (case c_law_take => k_is)
    (case k_law_take => k_is)
    (case a_law_words => k_is)
    (case l_law_words => k_is)
    (case c_law_words => k_is)
    (case k_law_words => k_is)
    (case a_law_stamps => k_is)
    (case l_law_stamps => k_is)
    (case c_law_stamps => k_is)
    (case k_law_stamps => k_is)
    (case a_law_simple => k_is)
    (case l_law_simple => k_is)
    (case c_law_simple => k_is)
    (case k_law_simple => k_is)
    (case a_law_drawn => k_is)
    (case l_law_drawn => k_is)
    (case c_law_drawn => k_is)
    (case k_law_drawn => k_is)
    (case a_law_undos => k_is)
    (case l_law_undos => k_is)
    (case c_law_undos => k_is)
    (case k_law_undos => k_is)
    (case a_law_namers => k_is)
    (case l_law_namers => k_is)
    (case c_law_namers => k_is)
    (case k_law_namers => k_is)
    (case a_law_due => k_is)
    (case l_law_due => k_is)
    (case c_law_due => k_is)
    (case k_law_due => k_is)
    (case a_law => k_is)
    (case l_law => k_is)
    (case c_law => k_is)
    (case k_law => k_is)
    (case m_reversed => k_is)
    (case m_len => k_is)
    (case m_abs => k_is)
    (case m_int => k_is)
    (case m_range => k_is)
    (case m_max => k_is)
    (case m_sorted => k_is)
    (case m_enumerate => k_is)
    (case m_repr => k_is)
    (case m_dict => k_is)
    (case m_isinstance => k_is)
