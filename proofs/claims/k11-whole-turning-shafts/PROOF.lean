import PyProof.Rows.All
import Wide.All
import OpenK.AllK
import Wide.FinOn
import HandS.ForMost
import HandS.ForExc
import HandS.Walk
import HandS.Zip
import HandS.HeadHook2
import HandS.HeadEnd
import HandS.EndBits
import HandS.Lambda
import HandS.EndTab
import HandS.HeadHook4
import HandS.TupAny
import HandS.TupMul
import HandS.TupLe
import HandS.IsInst
import HandS.Flow
import HandS.Style
import HandS.Wide
import KE.KExcSuper
import HandS.ExcInit
import HandS.ExcSuper
import HandS.ExcField
import HandS.TryMany
import PyProof.ReprRoads
import HandS.ExcValue
import KE.KExcIs
import HandS.ExcIs
import HandS.Set
import HandS.SetFor
import HandS.More
import HandS.Strs
import PyProof.StrLawsRepr
import PyProof.ReprLen
import PyProof.Rows.StrIntSpec
import PyProof.ReprText
import KE.KDictZip
import PyProof.WalkLemmas
import PyProof.Walk
import HandS.Star
import PyProof.AssignAttr
import KE.KTupSum
import KE.GoesEnum
import KE.KRevSl
import HandS.Conv
import HandS.NoneIn
import HandS.Head0
import HandS.Head1
import HandS.Head2
import KE.DataEq
import KE.GoesComp
import KE.GoesRaise
import HandS.TupSets
import KE.KeyNested
import KE.SortData
import PyProof.P3In
import KE.DataMinMax
import HandS.Dict
import HandS.Iter
import PyProof.Rows.RuleB_bool
import PyProof.ListNew
import PySem.Challenge.RW_anycogs_k11_whole_turning_shafts
set_option Elab.async false
set_option linter.all false
set_option maxRecDepth 100000
set_option maxHeartbeats 0
set_option autoImplicit false
namespace KL
end KL
namespace KM
end KM
namespace KP
end KP
namespace KT
end KT
namespace SS
end SS
namespace L2
end L2
namespace VL
open PySem L2
/-- a value as a tree -/
inductive D where
  | non | bl (b : Bool) | int (i : Int) | str (x : Str)
  | tup (ds : List D) | lst (ds : List D) | dct (kvs : List (Key × D)) | fdc (kvs : List (Key × D))
  | ins (C : Str) (fs : List (Str × D))
  | drw | scr (ns : List Int) | adr (a : Addr) | exc (C : Str) (fs : List (Str × D)) | loc (i : Nat)
/-- an object that may change: a list, a dict, an instance; one that became data -/
inductive Cell where
  | l (ds : List D) | k (ks : List (Key × D)) | o (C : Str) (fs : List (Str × D)) | x
/-- how many draws there were, and what may change -/
structure Ms where
  n : Nat
  h : List Cell
abbrev m0 : Ms := ⟨0, []⟩
/-- at a: an exception of the class at C, its dict at d -/
def exA (a C d : Addr) : HO := .ext fun h => ∃ (o : Obj) (vs : Array Value), h.get? a = some o ∧ o.cls = .ref C ∧ o.dict = some d ∧ o.data = .fields vs
/-- the state of the draws as it stands in memory -/
structure Dr where
  am : Addr
  ac : Addr
  al : Addr
  cs : List Int
  ls : List Int
  n : Nat
/-- the ghost: the part of the heap that is data, the draws -/
structure Gh where
  G : Hp
  r : Option Dr
  T : List (Addr × Str)
  L : List (Addr × Bool)
  K : PySem.W.Frag
mutual
def DV (K : PySem.W.Frag) (g : Gh) : D → V → Prop
  | .non, v => v = .non
  | .bl b, v => v = .bl b
  | .int i, v => v = .int i
  | .str x, v => v = .str x
  | .tup ds, v => ∃ a vs, v = .ref a ∧ SqT K g.G a vs ∧ DVs K g ds vs
  | .lst ds, v => ∃ a vs, v = .ref a ∧ g.G a = some (.lst vs) ∧ DVs K g ds vs
  | .dct kvs, v => ∃ a ws, v = .ref a ∧ g.G a = some (.dK ws) ∧ DVk K g kvs ws
  | .fdc kvs, v => ∃ a ws o, v = .ref a ∧ g.G a = some (.frz o (.dK ws)) ∧ DVk K g kvs ws
  | .ins C fs, v => ∃ a dx ws, v = .ref a ∧ g.G a = some (.ins (He.ga K C) dx ws) ∧ DVf K g fs ws
  | .drw, v => ∃ z, g.r = some z ∧ v = .ref z.am
  | .scr ns, v => ∃ a, v = .ref a ∧ SqL K g.G a (ns.map V.int)
  | .adr a, v => v = .ref a
  | .exc C fs, v => ∃ a d ws, v = .ref a ∧ g.G a = some (exA a (He.ga K C) d) ∧ g.G d = some (.xd ws) ∧ DVf K g fs ws
  | .loc i, v => ∃ a f, g.L[i]? = some (a, f) ∧ v = .ref a
def DVs (K : PySem.W.Frag) (g : Gh) : List D → List V → Prop
  | [], vs => vs = []
  | d :: ds, vs => ∃ v r, vs = v :: r ∧ DV K g d v ∧ DVs K g ds r
def DVk (K : PySem.W.Frag) (g : Gh) : List (Key × D) → List (Key × V) → Prop
  | [], vs => vs = []
  | (k, d) :: ds, vs => ∃ v r, vs = (k, v) :: r ∧ DV K g d v ∧ DVk K g ds r
def DVf (K : PySem.W.Frag) (g : Gh) : List (Str × D) → List (Str × V) → Prop
  | [], vs => vs = []
  | (k, d) :: ds, vs => ∃ v r, vs = (k, v) :: r ∧ DV K g d v ∧ DVf K g ds r
end
def Lx (g g' : Gh) : Prop := ∀ (i : Nat) (a : Addr) (f : Bool), g.L[i]? = some (a, f) → ∃ f', g'.L[i]? = some (a, f')
def Gx (g g' : Gh) : Prop := Same g.G g'.G ∧ (∀ z, g.r = some z → ∃ z', g'.r = some z' ∧ z'.am = z.am) ∧ Lx g g'
theorem Lx.refl (g : Gh) : Lx g g := fun _ _ f h => ⟨f, h⟩
theorem Lx.trans {a b c : Gh} (h : Lx a b) (k : Lx b c) : Lx a c := fun i x f hf => by
  obtain ⟨f1, h1⟩ := h i x f hf
  exact k i x f1 h1
theorem Gx.refl (g : Gh) : Gx g g := ⟨Same.refl _, fun z h => ⟨z, h, rfl⟩, Lx.refl g⟩
theorem Gx.trans {a b c : Gh} (h : Gx a b) (k : Gx b c) : Gx a c := ⟨h.1.trans k.1, fun z hz => by
  obtain ⟨z1, h1, e1⟩ := h.2.1 z hz
  obtain ⟨z2, h2, e2⟩ := k.2.1 z1 h1
  exact ⟨z2, h2, e2.trans e1⟩, h.2.2.trans k.2.2⟩
theorem sameT {K : PySem.W.Frag} {H H' : Hp} {a : Addr} {xs : List V} (e : Same H H') (h : SqT K H a xs) : SqT K H' a xs := by
  rcases h with (h | ⟨o, h⟩) | h
  · exact .inl (.inl (e _ _ h))
  · exact .inl (.inr ⟨o, e _ _ h⟩)
  · exact .inr h
mutual
theorem DV.mono {K : PySem.W.Frag} {g g' : Gh} (x : Gx g g') : ∀ {d : D} {v : V}, DV K g d v → DV K g' d v
  | .non, _, h => by simpa only [DV] using h
  | .bl _, _, h => by simpa only [DV] using h
  | .int _, _, h => by simpa only [DV] using h
  | .str _, _, h => by simpa only [DV] using h
  | .tup ds, v, h => by
    simp only [DV] at h ⊢
    obtain ⟨a, vs, e, h1, h2⟩ := h
    exact ⟨a, vs, e, sameT x.1 h1, DVs.mono x h2⟩
  | .lst ds, v, h => by
    simp only [DV] at h ⊢
    obtain ⟨a, vs, e, h1, h2⟩ := h
    exact ⟨a, vs, e, x.1 _ _ h1, DVs.mono x h2⟩
  | .dct ds, v, h => by
    simp only [DV] at h ⊢
    obtain ⟨a, vs, e, h1, h2⟩ := h
    exact ⟨a, vs, e, x.1 _ _ h1, DVk.mono x h2⟩
  | .fdc ds, v, h => by
    simp only [DV] at h ⊢
    obtain ⟨a, vs, o, e, h1, h2⟩ := h
    exact ⟨a, vs, o, e, x.1 _ _ h1, DVk.mono x h2⟩
  | .ins C ds, v, h => by
    simp only [DV] at h ⊢
    obtain ⟨a, dx, vs, e, h1, h2⟩ := h
    exact ⟨a, dx, vs, e, x.1 _ _ h1, DVf.mono x h2⟩
  | .drw, v, h => by
    simp only [DV] at h ⊢
    obtain ⟨z, h1, h2⟩ := h
    obtain ⟨z', e1, e2⟩ := x.2.1 z h1
    exact ⟨z', e1, by rw [e2]; exact h2⟩
  | .scr ns, v, h => by
    simp only [DV] at h ⊢
    obtain ⟨a, e, h1⟩ := h
    exact ⟨a, e, Same.seq x.1 h1⟩
  | .adr _, _, h => by simpa only [DV] using h
  | .exc C ds, v, h => by
    simp only [DV] at h ⊢
    obtain ⟨a, d, vs, e, h1, h2, h3⟩ := h
    exact ⟨a, d, vs, e, x.1 _ _ h1, x.1 _ _ h2, DVf.mono x h3⟩
  | .loc i, v, h => by
    simp only [DV] at h ⊢
    obtain ⟨a, f, h1, h2⟩ := h
    obtain ⟨f', h3⟩ := x.2.2 i a f h1
    exact ⟨a, f', h3, h2⟩
theorem DVs.mono {K : PySem.W.Frag} {g g' : Gh} (x : Gx g g') : ∀ {ds : List D} {vs : List V}, DVs K g ds vs → DVs K g' ds vs
  | [], _, h => by simpa only [DVs] using h
  | d :: ds, vs, h => by
    simp only [DVs] at h ⊢
    obtain ⟨v, r, e, h1, h2⟩ := h
    exact ⟨v, r, e, DV.mono x h1, DVs.mono x h2⟩
theorem DVk.mono {K : PySem.W.Frag} {g g' : Gh} (x : Gx g g') : ∀ {ds : List (Key × D)} {vs : List (Key × V)}, DVk K g ds vs → DVk K g' ds vs
  | [], _, h => by simpa only [DVk] using h
  | (k, d) :: ds, vs, h => by
    simp only [DVk] at h ⊢
    obtain ⟨v, r, e, h1, h2⟩ := h
    exact ⟨v, r, e, DV.mono x h1, DVk.mono x h2⟩
theorem DVf.mono {K : PySem.W.Frag} {g g' : Gh} (x : Gx g g') : ∀ {ds : List (Str × D)} {vs : List (Str × V)}, DVf K g ds vs → DVf K g' ds vs
  | [], _, h => by simpa only [DVf] using h
  | (k, d) :: ds, vs, h => by
    simp only [DVf] at h ⊢
    obtain ⟨v, r, e, h1, h2⟩ := h
    exact ⟨v, r, e, DV.mono x h1, DVf.mono x h2⟩
end
section
variable {K : PySem.W.Frag} {g : Gh}
theorem DV.i {i : Int} : DV K g (.int i) (.int i) := by simp only [DV]
theorem DV.s {i : Str} : DV K g (.str i) (.str i) := by simp only [DV]
theorem DV.b {i : Bool} : DV K g (.bl i) (.bl i) := by simp only [DV]
theorem DV.n : DV K g .non .non := by simp only [DV]
theorem DV.of_i {i : Int} {v : V} (h : DV K g (.int i) v) : v = .int i := by simpa only [DV] using h
theorem DV.of_s {i : Str} {v : V} (h : DV K g (.str i) v) : v = .str i := by simpa only [DV] using h
theorem DV.of_b {i : Bool} {v : V} (h : DV K g (.bl i) v) : v = .bl i := by simpa only [DV] using h
theorem DV.of_n {v : V} (h : DV K g .non v) : v = .non := by simpa only [DV] using h
theorem DV.of_t {ds : List D} {v : V} (h : DV K g (.tup ds) v) : ∃ a vs, v = .ref a ∧ SqT K g.G a vs ∧ DVs K g ds vs := by simpa only [DV] using h
theorem DV.of_l {ds : List D} {v : V} (h : DV K g (.lst ds) v) : ∃ a vs, v = .ref a ∧ g.G a = some (.lst vs) ∧ DVs K g ds vs := by simpa only [DV] using h
theorem DV.t {ds : List D} {a : Addr} {vs : List V} (h : SqT K g.G a vs) (hs : DVs K g ds vs) : DV K g (.tup ds) (.ref a) := by
  simp only [DV]
  exact ⟨a, vs, rfl, h, hs⟩
theorem DV.l {ds : List D} {a : Addr} {vs : List V} (h : g.G a = some (.lst vs)) (hs : DVs K g ds vs) : DV K g (.lst ds) (.ref a) := by
  simp only [DV]
  exact ⟨a, vs, rfl, h, hs⟩
theorem DVs.nil : DVs K g [] [] := by simp only [DVs]
theorem DVs.cons {d : D} {v : V} {ds : List D} {vs : List V} (h : DV K g d v) (hs : DVs K g ds vs) : DVs K g (d :: ds) (v :: vs) := by
  simp only [DVs]
  exact ⟨v, vs, rfl, h, hs⟩
theorem DVs.of_nil {vs : List V} (h : DVs K g [] vs) : vs = [] := by simpa only [DVs] using h
theorem DVs.of_cons {d : D} {ds : List D} {vs : List V} (h : DVs K g (d :: ds) vs) : ∃ v r, vs = v :: r ∧ DV K g d v ∧ DVs K g ds r := by simpa only [DVs] using h
theorem DVs.length : ∀ {ds : List D} {vs : List V}, DVs K g ds vs → vs.length = ds.length
  | [], vs, h => by rw [h.of_nil] <;> rfl
  | d :: ds, vs, h => by
    obtain ⟨v, r, e, h1, h2⟩ := h.of_cons
    rw [e, List.length_cons, List.length_cons, DVs.length h2]
theorem DVs.get : ∀ {ds : List D} {vs : List V} {i : Nat} {d : D}, DVs K g ds vs → ds[i]? = some d → ∃ v, vs[i]? = some v ∧ DV K g d v
  | [], _, _, _, _, e => by simp at e
  | d :: ds, vs, 0, d', h, e => by
    obtain ⟨v, r, rfl, h1, h2⟩ := h.of_cons
    simp at e
    subst e
    exact ⟨v, rfl, h1⟩
  | d :: ds, vs, i + 1, d', h, e => by
    obtain ⟨v, r, rfl, h1, h2⟩ := h.of_cons
    obtain ⟨v', a, b⟩ := DVs.get (i := i) (d := d') h2 (by simpa using e)
    exact ⟨v', by simpa using a, b⟩
theorem DVs.app : ∀ {ds es : List D} {vs us : List V}, DVs K g ds vs → DVs K g es us → DVs K g (ds ++ es) (vs ++ us)
  | [], _, vs, _, h, k => by rw [h.of_nil]; exact k
  | d :: ds, _, vs, _, h, k => by
    obtain ⟨v, r, rfl, h1, h2⟩ := h.of_cons
    exact .cons h1 (DVs.app h2 k)
theorem DVs.take : ∀ {ds : List D} {vs : List V} (n : Nat), DVs K g ds vs → DVs K g (ds.take n) (vs.take n)
  | [], vs, n, h => by rw [h.of_nil]; simpa using DVs.nil
  | d :: ds, vs, 0, h => by simpa using DVs.nil
  | d :: ds, vs, n + 1, h => by
    obtain ⟨v, r, rfl, h1, h2⟩ := h.of_cons
    exact .cons h1 (DVs.take n h2)
theorem DVs.drop : ∀ {ds : List D} {vs : List V} (n : Nat), DVs K g ds vs → DVs K g (ds.drop n) (vs.drop n)
  | [], vs, n, h => by rw [h.of_nil]; simpa using DVs.nil
  | d :: ds, vs, 0, h => h
  | d :: ds, vs, n + 1, h => by
    obtain ⟨v, r, rfl, h1, h2⟩ := h.of_cons
    exact DVs.drop n h2
theorem DVs.set : ∀ {ds : List D} {vs : List V} {d : D} {v : V} (i : Nat), DVs K g ds vs → DV K g d v → DVs K g (ds.set i d) (vs.set i v)
  | [], vs, _, _, i, h, _ => by rw [h.of_nil]; exact DVs.nil
  | d :: ds, vs, _, _, 0, h, k => by
    obtain ⟨v, r, rfl, h1, h2⟩ := h.of_cons
    exact .cons k h2
  | d :: ds, vs, _, _, i + 1, h, k => by
    obtain ⟨v, r, rfl, h1, h2⟩ := h.of_cons
    exact .cons h1 (DVs.set i h2 k)
theorem DVs.ints : ∀ {ns : List Int}, DVs K g (ns.map D.int) (ns.map V.int)
  | [] => .nil
  | _ :: _ => .cons .i DVs.ints
theorem DVs.of_ints : ∀ {ns : List Int} {vs : List V}, DVs K g (ns.map D.int) vs → vs = ns.map V.int
  | [], _, h => h.of_nil
  | _ :: _, _, h => by
    obtain ⟨v, r, rfl, h1, h2⟩ := h.of_cons
    rw [h1.of_i, DVs.of_ints h2]
    rfl
theorem DVs.of_bls : ∀ {ns : List Bool} {vs : List V}, DVs K g (ns.map D.bl) vs → vs = ns.map V.bl
  | [], _, h => h.of_nil
  | _ :: _, _, h => by
    obtain ⟨v, r, rfl, h1, h2⟩ := h.of_cons
    rw [h1.of_b, DVs.of_bls h2]
    rfl
theorem DVs.strs : ∀ {ns : List Str}, DVs K g (ns.map D.str) (ns.map V.str)
  | [] => .nil
  | _ :: _ => .cons .s DVs.strs
theorem DVs.of_strs : ∀ {ns : List Str} {vs : List V}, DVs K g (ns.map D.str) vs → vs = ns.map V.str
  | [], _, h => h.of_nil
  | _ :: _, _, h => by
    obtain ⟨v, r, rfl, h1, h2⟩ := h.of_cons
    rw [h1.of_s, DVs.of_strs h2]
    rfl
end
def dzone (z : Dr) (a : Addr) : Prop := a = z.am ∨ a = z.ac ∨ a = z.al
/-- an object that may change -/
def lz (g : Gh) (a : Addr) : Prop := ∃ i : Nat, g.L[i]? = some (a, true)
def zone (g : Gh) (a : Addr) : Prop := (∃ z, g.r = some z ∧ dzone z a) ∨ lz g a
structure DrOk (z : Dr) (H : Hp) : Prop where
  m : H z.am = some (.dK [(.inr "cells", .ref z.ac), (.inr "left", .ref z.al), (.inr "at", .int (z.n : Int))])
  c : H z.ac = some (.lst (z.cs.map V.int))
  l : H z.al = some (.lst (z.ls.map V.int))
  ne : z.ac ≠ z.al
  bits : ∀ c ∈ z.cs, Builtin.Int.intBits c ≤ 1048576
  clen : z.cs.length ≤ 63
  pos : ∀ c ∈ z.ls, 0 ≤ c
  llen : z.ls.length ≤ 63
/-- no table of code objects -/
def NT (o : HO) : Prop := ∀ ps, o ≠ .tbl ps
def CellAt (g : Gh) (H : Hp) : Cell → Addr → Bool → Prop
  | .x, _, f => f = false
  | .l ds, a, f => f = true ∧ ∃ vs, H a = some (.lst vs) ∧ DVs g.K g ds vs
  | .k ks, a, f => f = true ∧ ∃ ws, H a = some (.dK ws) ∧ DVk g.K g ks ws
  | .o C fs, a, f => f = true ∧ ∃ dx ws, H a = some (.ins (He.ga g.K C) dx ws) ∧ DVf g.K g fs ws
structure MemOk (g : Gh) (H : Hp) (h : List Cell) : Prop where
  len : g.L.length = h.length
  at_ : ∀ (i : Nat) (c : Cell) (a : Addr) (f : Bool), h[i]? = some c → g.L[i]? = some (a, f) → CellAt g H c a f
  inj : ∀ (i j : Nat) (a : Addr), g.L[i]? = some (a, true) → g.L[j]? = some (a, true) → i = j
  dz : ∀ a, lz g a → ∀ z, g.r = some z → ¬ dzone z a
theorem CellAt.keep {g g' : Gh} {H H' : Hp} {c : Cell} {a : Addr} {f : Bool} (x : Gx g g') (hK : g'.K = g.K) (k : ∀ o, f = true → H a = some o → NT o → H' a = some o) (h : CellAt g H c a f) : CellAt g' H' c a f := by
  cases c with
  | x => exact h
  | l ds =>
    obtain ⟨h1, vs, h2, h3⟩ := h
    exact ⟨h1, vs, k _ h1 h2 (fun _ z => (nomatch z)), by rw [hK]; exact h3.mono x⟩
  | k ks =>
    obtain ⟨h1, vs, h2, h3⟩ := h
    exact ⟨h1, vs, k _ h1 h2 (fun _ z => (nomatch z)), by rw [hK]; exact h3.mono x⟩
  | o C fs =>
    obtain ⟨h1, dx, vs, h2, h3⟩ := h
    exact ⟨h1, dx, vs, by rw [hK]; exact k _ h1 h2 (fun _ z => (nomatch z)), by rw [hK]; exact h3.mono x⟩
theorem CellAt.there {g : Gh} {H : Hp} {c : Cell} {a : Addr} {f : Bool} (h : CellAt g H c a f) (hf : f = true) : ∃ o, H a = some o ∧ NT o ∧ ∀ b z, o ≠ LamX.CodeO b z := by
  cases c with
  | x => rw [h] at hf; cases hf
  | l ds =>
    obtain ⟨h1, vs, h2, h3⟩ := h
    exact ⟨_, h2, fun _ z => (nomatch z), fun _ _ z => (nomatch z)⟩
  | k ks =>
    obtain ⟨h1, vs, h2, h3⟩ := h
    exact ⟨_, h2, fun _ z => (nomatch z), fun _ _ z => (nomatch z)⟩
  | o C fs =>
    obtain ⟨h1, dx, vs, h2, h3⟩ := h
    exact ⟨_, h2, fun _ z => (nomatch z), fun _ _ z => (nomatch z)⟩
theorem MemOk.there {g : Gh} {H : Hp} {h : List Cell} (m : MemOk g H h) {a : Addr} (l : lz g a) : ∃ o, H a = some o ∧ NT o ∧ ∀ b z, o ≠ LamX.CodeO b z := by
  obtain ⟨i, hi⟩ := l
  have hl : i < h.length := by rw [← m.len]; exact (List.getElem?_eq_some_iff.mp hi).1
  exact (m.at_ i h[i] a true (by simp [hl]) hi).there rfl
/-- the rest of the heap may change -/
theorem MemOk.keep {g g' : Gh} {H H' : Hp} {h : List Cell} (m : MemOk g H h) (x : Gx g g') (hL : g'.L = g.L) (hK : g'.K = g.K) (hd : ∀ a, lz g a → ∀ z, g'.r = some z → ¬ dzone z a) (k : ∀ a o, lz g a → H a = some o → NT o → H' a = some o) : MemOk g' H' h where
  len := by rw [hL]; exact m.len
  at_ := fun i c a f h1 h2 => by
    rw [hL] at h2
    refine (m.at_ i c a f h1 h2).keep x hK fun o hf ho hn => k a o ⟨i, ?_⟩ ho hn
    rw [← hf]
    exact h2
  inj := fun i j a h1 h2 => by
    rw [hL] at h1 h2
    exact m.inj i j a h1 h2
  dz := fun a l z e => hd a (by
    obtain ⟨i, hi⟩ := l
    rw [hL] at hi
    exact ⟨i, hi⟩) z e
structure GhOk (g : Gh) (H : Hp) (n : Ms) : Prop where
  sub : Same g.G H
  nt : ∀ a o, g.G a = some o → NT o
  dr : ∀ z, g.r = some z → DrOk z H ∧ z.n + 1 = n.n
  off : ∀ a, zone g a → g.G a = none
  mem : MemOk g H n.h
structure Ext (g : Gh) (H : Hp) (g' : Gh) (H' : Hp) : Prop where
  sG : Same g.G g'.G
  keep : ∀ a o, H a = some o → ¬ zone g a → NT o → H' a = some o
  tb : g'.T = g.T ∧ (LamX.Tabs g.T H → LamX.Tabs g.T H')
  out : ∀ a o, H a = some o → g.G a = none → ¬ zone g a → g'.G a = none
  th : ∀ a o, H a = some o → ∃ o', H' a = some o'
  am : ∀ z, g.r = some z → ∃ z', g'.r = some z' ∧ z'.am = z.am
  zn : ∀ a, zone g' a → zone g a ∨ H a = none
  lc : Lx g g' ∧ g'.K = g.K
theorem Ext.gx {g g' : Gh} {H H' : Hp} (x : Ext g H g' H') : Gx g g' := ⟨x.sG, x.am, x.lc.1⟩
theorem Ext.refl (g : Gh) (H : Hp) : Ext g H g H :=
  ⟨Same.refl _, fun _ _ h _ _ => h, ⟨rfl, fun h => h⟩, fun _ _ _ h _ => h, fun _ o h => ⟨o, h⟩, fun z h => ⟨z, h, rfl⟩, fun _ h => .inl h, Lx.refl g, rfl⟩
theorem Ext.trans {g g1 g2 : Gh} {H H1 H2 : Hp} (x : Ext g H g1 H1) (y : Ext g1 H1 g2 H2) : Ext g H g2 H2 := by
  have nz : ∀ a o, H a = some o → ¬ zone g a → ¬ zone g1 a := fun a o h hz z => by
    rcases x.zn a z with q | q
    · exact hz q
    · rw [h] at q
      cases q
  exact {
    sG := x.sG.trans y.sG
    keep := fun a o h hz ht => y.keep a o (x.keep a o h hz ht) (nz a o h hz) ht
    tb := ⟨y.tb.1.trans x.tb.1, fun h => by
      have := y.tb.2
      rw [x.tb.1] at this
      exact this (x.tb.2 h)⟩
    out := fun a o h n hz => by
      obtain ⟨o', h'⟩ := x.th a o h
      exact y.out a o' h' (x.out a o h n hz) (nz a o h hz)
    th := fun a o h => by
      obtain ⟨o', h'⟩ := x.th a o h
      exact y.th a o' h'
    am := (x.gx.trans y.gx).2.1
    zn := fun a z => by
      rcases y.zn a z with q | q
      · exact x.zn a q
      · right
        cases e : H a with
        | none => rfl
        | some o =>
          obtain ⟨o', h'⟩ := x.th a o e
          rw [q] at h'
          cases h'
    lc := ⟨x.lc.1.trans y.lc.1, y.lc.2.trans x.lc.2⟩ }
/-- a new object that is data -/
def Gh.put (g : Gh) (p : Addr) (o : HO) : Gh := ⟨upd g.G p o, g.r, g.T, g.L, g.K⟩
theorem Gx.put {g : Gh} {p : Addr} {o : HO} (h : g.G p = none) : Gx g (g.put p o) :=
  ⟨fun b u e => by
    show upd g.G p o b = some u
    rw [upd_ne (ne_of_none e h)]
    exact e, fun z e => ⟨z, e, rfl⟩, fun _ _ f e => ⟨f, e⟩⟩
theorem tab_new {H : Hp} {p : Addr} {o : HO} (h : H p = none) (T : List (Addr × Str)) (t : LamX.Tabs T H) : LamX.Tabs T (upd H p o) := t.ext fun b u e => by
  rw [upd_ne (ne_of_none e h)]
  exact e
theorem Ext.put {g : Gh} {H : Hp} {p : Addr} {o : HO} (hs : Same g.G H) (h : H p = none) : Ext g H (g.put p o) (upd H p o) where
  sG := (Gx.put (hs.free h)).1
  keep := fun a u e _ _ => by rw [upd_ne (ne_of_none e h)]; exact e
  tb := ⟨rfl, tab_new h _⟩
  out := fun a u e n _ => by
    show upd g.G p o a = none
    rw [upd_ne (ne_of_none e h)]
    exact n
  th := fun a u e => ⟨u, by rw [upd_ne (ne_of_none e h)]; exact e⟩
  am := fun z e => ⟨z, e, rfl⟩
  zn := fun _ z => .inl z
  lc := ⟨Lx.refl g, rfl⟩
/-- a new object that is not data (yet) -/
theorem Ext.new {g : Gh} {H : Hp} {p : Addr} {o : HO} (h : H p = none) : Ext g H g (upd H p o) where
  sG := Same.refl _
  keep := fun a u e _ _ => by rw [upd_ne (ne_of_none e h)]; exact e
  tb := ⟨rfl, tab_new h _⟩
  out := fun a u e n _ => n
  th := fun a u e => ⟨u, by rw [upd_ne (ne_of_none e h)]; exact e⟩
  am := fun z e => ⟨z, e, rfl⟩
  zn := fun _ z => .inl z
  lc := ⟨Lx.refl g, rfl⟩
theorem DrOk.keep {z : Dr} {H H' : Hp} (x : DrOk z H) (k : ∀ a o, H a = some o → H' a = some o) : DrOk z H' :=
  ⟨k _ _ x.m, k _ _ x.c, k _ _ x.l, x.ne, x.bits, x.clen, x.pos, x.llen⟩
theorem DrOk.at {z : Dr} {H : Hp} (x : DrOk z H) {a : Addr} (q : dzone z a) : ∃ o, H a = some o := by
  rcases q with q | q | q <;> rw [q]
  · exact ⟨_, x.m⟩
  · exact ⟨_, x.c⟩
  · exact ⟨_, x.l⟩
theorem GhOk.nzone {g : Gh} {H : Hp} {n : Ms} (x : GhOk g H n) {p : Addr} (h : H p = none) : ¬ zone g p := fun z => by
  rcases z with ⟨z', e, q⟩ | l
  · obtain ⟨o, ho⟩ := (x.dr z' e).1.at (a := p) q
    rw [h] at ho
    cases ho
  · obtain ⟨o, ho, _⟩ := x.mem.there l
    rw [h] at ho
    cases ho
theorem nt_exA {a C d : Addr} : NT (exA a C d) := fun _ z => by
  unfold exA at z
  cases z
theorem GhOk.put {g : Gh} {H : Hp} {n : Ms} {p : Addr} {o : HO} (x : GhOk g H n) (h : H p = none) (ho : NT o := by first | exact nt_exA | (intro _ z; cases z)) : GhOk (g.put p o) (upd H p o) n where
  nt := fun b u e => by
    by_cases q : b = p
    · subst q
      have e' : upd g.G b o b = some u := e
      rw [upd_same] at e'
      cases e'
      exact ho
    · have e' : upd g.G p o b = some u := e
      rw [upd_ne q] at e'
      exact x.nt b u e'
  sub := fun b u e => by
    by_cases q : b = p
    · subst q
      have e' : upd g.G b o b = some u := e
      rw [upd_same] at e' ⊢
      exact e'
    · have e' : upd g.G p o b = some u := e
      rw [upd_ne q] at e' ⊢
      exact x.sub _ _ e'
  dr := fun z e => ⟨(x.dr z e).1.keep fun a u q => by rw [upd_ne (ne_of_none q h)]; exact q, (x.dr z e).2⟩
  off := fun a z => by
    have q : a ≠ p := fun q => x.nzone h (q ▸ z)
    show upd g.G p o a = none
    rw [upd_ne q]
    exact x.off a z
  mem := x.mem.keep (Gx.put (x.sub.free h)) rfl rfl x.mem.dz fun a u _ e _ => by rw [upd_ne (ne_of_none e h)]; exact e
theorem GhOk.new {g : Gh} {H : Hp} {n : Ms} {p : Addr} {o : HO} (x : GhOk g H n) (h : H p = none) : GhOk g (upd H p o) n where
  nt := x.nt
  sub := fun b u e => by
    rw [upd_ne (ne_of_none (x.sub _ _ e) h)]
    exact x.sub _ _ e
  dr := fun z e => ⟨(x.dr z e).1.keep fun a u q => by rw [upd_ne (ne_of_none q h)]; exact q, (x.dr z e).2⟩
  off := x.off
  mem := x.mem.keep (Gx.refl _) rfl rfl x.mem.dz fun a u _ e _ => by rw [upd_ne (ne_of_none e h)]; exact e
/-- what a slot may own: a list, an instance -/
inductive OC where
  | l (ds : List D) | o (C : Str) (fs : List (Str × D))
def OcV (K : PySem.W.Frag) (g : Gh) : OC → HO → Prop
  | .l ds, .lst vs => DVs K g ds vs
  | .o C fs, .ins c _ ws => c = He.ga K C ∧ DVf K g fs ws
  | _, _ => False
def ocD : OC → D
  | .l ds => .lst ds
  | .o C fs => .ins C fs
theorem OcV.mono {K : PySem.W.Frag} {g g' : Gh} (x : Gx g g') {c : OC} {h : HO} (k : OcV K g c h) : OcV K g' c h := by
  cases c <;> cases h <;> first | exact k.elim | skip
  · exact DVs.mono x k
  · exact ⟨k.1, DVf.mono x k.2⟩
theorem OcV.nt {K : PySem.W.Frag} {g : Gh} {c : OC} {h : HO} (k : OcV K g c h) : NT h := by
  intro ps z
  subst z
  cases c <;> exact k.elim
theorem OcV.nc {K : PySem.W.Frag} {g : Gh} {c : OC} {h : HO} (k : OcV K g c h) : ∀ a z, h ≠ LamX.CodeO a z := by
  intro a z e
  unfold LamX.CodeO at e
  subst e
  cases c <;> exact k.elim
/-- an object that is no table and no code object is changed -/
theorem tab_chg {H : Hp} {q : Addr} {vs us : HO} (hq : H q = some vs) (hn : NT vs) (hc : ∀ a z, vs ≠ LamX.CodeO a z) (T : List (Addr × Str)) (t : LamX.Tabs T H) : LamX.Tabs T (upd H q us) := fun p hp => by
  obtain ⟨ps, h1, h2, h3⟩ := t p hp
  have np : p.1 ≠ q := fun z => by
    rw [z, hq] at h1
    exact hn ps (Option.some.inj h1)
  refine ⟨ps, by rw [upd_ne np]; exact h1, h2, fun pos cv hcv => ?_⟩
  obtain ⟨c, e1, e2⟩ := h3 pos cv hcv
  have nc : c ≠ q := fun z => by
    rw [z, hq] at e2
    exact hc _ _ (Option.some.inj e2)
  exact ⟨c, e1, by rw [upd_ne nc]; exact e2⟩
theorem OcV.dv {K : PySem.W.Frag} {g : Gh} {c : OC} {h : HO} {a : Addr} (k : OcV K g c h) (e : g.G a = some h) : DV K g (ocD c) (.ref a) := by
  cases c <;> cases h <;> first | exact k.elim | skip
  · exact DV.l e k
  · simp only [ocD, DV]
    obtain ⟨rfl, k⟩ := k
    exact ⟨a, _, _, rfl, e, k⟩
inductive Slot where
  | un | dat (d : D) | own (c : OC)
structure Bs where
  g : Gh
  H : Hp
  me : Option Addr := none
  xs : Option (Addr × List (Str × D)) := none
structure VS where
  e : List Slot
  n : Ms
def OwnAt (K : PySem.W.Frag) (B : Bs) (g : Gh) (H : Hp) (c : OC) (a : Addr) : Prop :=
  ∃ ho, B.H a = none ∧ g.G a = none ∧ ¬ zone g a ∧ H a = some ho ∧ OcV K g c ho
def SlotOk (K : PySem.W.Frag) (B : Bs) (g : Gh) (H : Hp) : Slot → Option V → Prop
  | .un, _ => True
  | .dat d, o => ∃ v, o = some v ∧ DV K g d v
  | .own ds, o => ∃ a, o = some (.ref a) ∧ OwnAt K B g H ds a
/-- the fields of an exception that is being handled -/
def PinOk (K : PySem.W.Frag) (g : Gh) (H : Hp) (p : Addr × List (Str × D)) : Prop := ∃ ws, H p.1 = some (.xd ws) ∧ DVf K g p.2 ws ∧ g.G p.1 = none ∧ ¬ zone g p.1
theorem PinOk.step {K : PySem.W.Frag} {g g' : Gh} {H H' : Hp} {p : Addr × List (Str × D)} (h : PinOk K g H p) (x : Ext g H g' H') : PinOk K g' H' p := by
  obtain ⟨ws, h1, h2, h3, h4⟩ := h
  refine ⟨ws, x.keep _ _ h1 h4 (fun _ z => (nomatch z)), h2.mono x.gx, x.out _ _ h1 h3 h4, fun z => ?_⟩
  rcases x.zn _ z with q | q
  · exact h4 q
  · rw [h1] at q
    cases q
/-- the defs of the laws that make lambdas -/
def lamDefs : List Str := ["law", "_law_right", "_law_refused_right", "_law_wide_right", "_law_asked_right", "_law_all", "_law_many_right", "_law_two_right", "_law_learns", "_law_trial_right", "_law_deeds_right", "_law_bench_right"]
def isFnK (K : PySem.W.Frag) (x : Str) : Bool := match K.lookup (He.ga K x) with
  | some ⟨_, _, .func _, _⟩ => true
  | _ => false
/-- their tables of code, with the lambdas' name -/
def TabsOf (K : PySem.W.Frag) : List (Addr × Str) := (lamDefs.filter (isFnK K)).map fun x => ((He.cT K (x, none)).2, x ++ ".<locals>." ++ "<lambda>")
def TbOk (K : PySem.W.Frag) (g : Gh) (H : Hp) : Prop := g.T = TabsOf K ∧ g.K = K ∧ LamX.Tabs (TabsOf K) H
theorem TbOk.t {K : PySem.W.Frag} {g : Gh} {H : Hp} (h : TbOk K g H) : g.T = TabsOf K := h.1
theorem TbOk.k {K : PySem.W.Frag} {g : Gh} {H : Hp} (h : TbOk K g H) : g.K = K := h.2.1
theorem TbOk.s {K : PySem.W.Frag} {g : Gh} {H : Hp} (h : TbOk K g H) : LamX.Tabs (TabsOf K) H := h.2.2
theorem TbOk.step {K : PySem.W.Frag} {g g' : Gh} {H H' : Hp} (t : TbOk K g H) (x : Ext g H g' H') : TbOk K g' H' := by
  have := x.tb.2
  rw [t.t] at this
  exact ⟨x.tb.1.trans t.t, x.lc.2.trans t.k, this t.s⟩
structure Rel (K : PySem.W.Frag) (B : Bs) (g : Gh) (s : VS) (σ : St) (H : Hp) : Prop where
  gh : GhOk g H s.n
  ext : Ext B.g B.H g H
  len : s.e.length = σ.length
  sl : ∀ (i : Nat) sl o, s.e[i]? = some sl → σ[i]? = some o → SlotOk K B g H sl o
  ap : ∀ (i j : Nat) xs ys, s.e[i]? = some (.own xs) → s.e[j]? = some (.own ys) → σ[i]? = σ[j]? → i = j
  me : ∀ a c, B.me = some a → s.e[0]? = some (.own c) → σ[0]? = some (some (.ref a))
  px : ∀ p, B.xs = some p → PinOk K g H p
  tb : TbOk K g H
section
variable {K : PySem.W.Frag} {B : Bs} {g g' : Gh} {s : VS} {σ : St} {H H' : Hp}
/-- behind a step that keeps all but the draws -/
theorem Rel.step {n : Ms} (R : Rel K B g s σ H) (x : Ext g H g' H') (ok : GhOk g' H' n) : Rel K B g' ⟨s.e, n⟩ σ H' where
  gh := ok
  ext := R.ext.trans x
  len := R.len
  sl := fun i sl o h1 h2 => by
    have q := R.sl i sl o h1 h2
    cases sl with
    | un => trivial
    | dat d =>
      obtain ⟨v, e, h⟩ := q
      exact ⟨v, e, h.mono x.gx⟩
    | own ds =>
      obtain ⟨a, e, vs, k1, k2, k3, k4, k5⟩ := q
      refine ⟨a, e, vs, k1, x.out a _ k4 k2 k3, fun z => ?_, x.keep a _ k4 k3 k5.nt, k5.mono x.gx⟩
      rcases x.zn a z with q | q
      · exact k3 q
      · rw [k4] at q
        cases q
  ap := R.ap
  me := R.me
  px := fun p e => (R.px p e).step x
  tb := R.tb.step x
theorem Rel.put {p : Addr} {o : HO} (R : Rel K B g s σ H) (h : H p = none) (ho : NT o := by first | exact nt_exA | (intro _ z; cases z)) : Rel K B (g.put p o) s σ (upd H p o) :=
  R.step (Ext.put R.gh.sub h) (R.gh.put h ho)
theorem Rel.new {p : Addr} {o : HO} (R : Rel K B g s σ H) (h : H p = none) : Rel K B g s σ (upd H p o) :=
  R.step (Ext.new h) (R.gh.new h)
theorem Rel.gn (R : Rel K B g s σ H) {p : Addr} (h : H p = none) : g.G p = none := R.gh.sub.free h
theorem Rel.dat (R : Rel K B g s σ H) {i : Nat} {d : D} (h : s.e[i]? = some (.dat d)) : ∃ v, σ[i]? = some (some v) ∧ DV K g d v := by
  have hl : i < σ.length := by rw [← R.len]; exact (List.getElem?_eq_some_iff.mp h).1
  obtain ⟨v, e, q⟩ := R.sl i _ (σ[i]) h (by simp [hl])
  exact ⟨v, by rw [List.getElem?_eq_getElem hl, e], q⟩
theorem Rel.own (R : Rel K B g s σ H) {i : Nat} {ds : OC} (h : s.e[i]? = some (.own ds)) : ∃ a, σ[i]? = some (some (.ref a)) ∧ OwnAt K B g H ds a := by
  have hl : i < σ.length := by rw [← R.len]; exact (List.getElem?_eq_some_iff.mp h).1
  obtain ⟨a, e, q⟩ := R.sl i _ (σ[i]) h (by simp [hl])
  exact ⟨a, by rw [List.getElem?_eq_getElem hl, e], q⟩
/-- a slot is set to data -/
theorem Rel.setD {i : Nat} {d : D} {v : V} (R : Rel K B g s σ H) (h : DV K g d v) : Rel K B g ⟨s.e.set i (.dat d), s.n⟩ (σ.set i (some v)) H where
  gh := R.gh
  ext := R.ext
  len := by
    show (s.e.set i _).length = (σ.set i _).length
    rw [List.length_set, List.length_set]
    exact R.len
  sl := fun j sl o h1 h2 => by
    by_cases e : i = j
    · subst e
      have hl : i < s.e.length := by
        have := (List.getElem?_eq_some_iff.mp h1).1
        rwa [List.length_set] at this
      rw [List.getElem?_set_self hl] at h1
      rw [List.getElem?_set_self (by rw [← R.len]; exact hl)] at h2
      cases h1
      cases h2
      exact ⟨v, rfl, h⟩
    · rw [List.getElem?_set_ne e] at h1 h2
      exact R.sl j sl o h1 h2
  ap := fun j k xs ys h1 h2 h3 => by
    have nj : i ≠ j := fun e => by
      subst e
      have hl : i < s.e.length := by
        have := (List.getElem?_eq_some_iff.mp h1).1
        rwa [List.length_set] at this
      rw [List.getElem?_set_self hl] at h1
      cases h1
    have nk : i ≠ k := fun e => by
      subst e
      have hl : i < s.e.length := by
        have := (List.getElem?_eq_some_iff.mp h2).1
        rwa [List.length_set] at this
      rw [List.getElem?_set_self hl] at h2
      cases h2
    rw [List.getElem?_set_ne nj] at h1 h3
    rw [List.getElem?_set_ne nk] at h2 h3
    exact R.ap j k xs ys h1 h2 h3
  px := R.px
  tb := R.tb
  me := fun a c e h => by
    have h' : (s.e.set i (.dat d))[0]? = some (.own c) := h
    by_cases q : i = 0
    · subst q
      have hl : 0 < s.e.length := by
        have := (List.getElem?_eq_some_iff.mp h').1
        rwa [List.length_set] at this
      rw [List.getElem?_set_self hl] at h'
      cases h'
    · rw [List.getElem?_set_ne q] at h' ⊢
      exact R.me a c e h'
end
end VL
namespace VL
open PySem L2
structure Exn where
  C : Str
  fs : List (Str × D)
abbrev MX := Exn → VS → Prop
abbrev M (α : Type) := VS → (α → VS → Prop) → MX → Prop
def ExcOk (K : PySem.W.Frag) (g : Gh) (H : Hp) (x : Exn) (cls : Value) (dd : Option Addr) : Prop :=
  cls = .ref (He.ga K x.C) ∧ ∃ d ws, dd = some d ∧ g.G d = some (.xd ws) ∧ DVf K g x.fs ws
def XOk (K : PySem.W.Frag) (B : Bs) (W : WX) (g : Gh) (σ : L2.St) (E : MX) : Prop :=
  ∀ g' s' H' x cls dd, Gx g g' → Rel K B g' s' σ H' → ExcOk K g' H' x cls dd → E x s' → W cls dd σ H'
theorem XOk.mono {K : PySem.W.Frag} {B : Bs} {W : WX} {g g' : Gh} {σ : L2.St} {E : MX} (h : XOk K B W g σ E) (x : Gx g g') : XOk K B W g' σ E :=
  fun g2 s2 H2 y cls dd x2 => h g2 s2 H2 y cls dd (x.trans x2)
def rdE (K : PySem.W.Frag) (B : Bs) (W : WX) (m : M D) : TE := fun σ H Qv => ∃ g s Q E, Rel K B g s σ H ∧ m s Q E ∧
  (∀ g' s' H' v d, Gx g g' → Rel K B g' s' σ H' → DV K g' d v → Q d s' → Qv v H') ∧ XOk K B W g σ E
def rdT (K : PySem.W.Frag) (B : Bs) (W : WX) (m : M Bool) : TT := fun σ H Qv => ∃ g s Q E, Rel K B g s σ H ∧ m s Q E ∧
  (∀ g' s' H' b, Gx g g' → Rel K B g' s' σ H' → Q b s' → Qv b H') ∧ XOk K B W g σ E
def rdA (K : PySem.W.Frag) (B : Bs) (W : WX) (m : M (List D)) : TA := fun σ H Qv => ∃ g s Q E, Rel K B g s σ H ∧ m s Q E ∧
  (∀ g' s' H' vs ds, Gx g g' → Rel K B g' s' σ H' → DVs K g' ds vs → Q ds s' → Qv vs H') ∧ XOk K B W g σ E
abbrev PM (X : Cx) (B : Bs) (W : WX) (e : Expr) (m : M D) : Prop := PE X e (rdE X.K B W m)
abbrev PMT (X : Cx) (B : Bs) (W : WX) (e : Expr) (m : M Bool) : Prop := PT X e (rdT X.K B W m)
abbrev PMW (X : Cx) (B : Bs) (W : WX) (e : Expr) (m : M Bool) : Prop := PW X e (rdT X.K B W m)
abbrev PMA (X : Cx) (B : Bs) (W : WX) (es : List Expr) (m : M (List D)) : Prop := PA X es (rdA X.K B W m)
theorem impE {X : Cx} {e : Expr} {t t' : TE} (h : PE X e t) (f : ∀ σ H Q, t' σ H Q → t σ H Q) : PE X e t' := ⟨fun pins s σ H Q I q => h.run pins s σ H Q I (f σ H Q q)⟩
theorem impT {X : Cx} {e : Expr} {t t' : TT} (h : PT X e t) (f : ∀ σ H Q, t' σ H Q → t σ H Q) : PT X e t' := ⟨fun pins s σ H Q I q => h.run pins s σ H Q I (f σ H Q q)⟩
theorem impW {X : Cx} {e : Expr} {t t' : TT} (h : PW X e t) (f : ∀ σ H Q, t' σ H Q → t σ H Q) : PW X e t' := ⟨fun w pins s σ H Q I q => h.run w pins s σ H Q I (f σ H Q q)⟩
theorem impA {X : Cx} {e : List Expr} {t t' : TA} (h : PA X e t) (f : ∀ σ H Q, t' σ H Q → t σ H Q) : PA X e t' := ⟨fun p pins s σ H Q I q => h.run p pins s σ H Q I (f σ H Q q)⟩
def mVar (i : Nat) : M D := fun s Q _ => match s.e[i]? with
  | some (.dat d) => Q d s
  | some (.own c) => Q (ocD c) ⟨s.e.set i (.dat (ocD c)), s.n⟩
  | _ => False
def mC (d : D) : M D := fun s Q _ => Q d s
section
variable {X : Cx} {B : Bs} {W : WX}
/-- a list that is owned becomes data -/
theorem Rel.freeze {K : PySem.W.Frag} {g : Gh} {s : VS} {σ : L2.St} {H : Hp} {i : Nat} {ds : OC} (R : Rel K B g s σ H) (h : s.e[i]? = some (.own ds)) :
    ∃ a g', σ[i]? = some (some (.ref a)) ∧ Gx g g' ∧ DV K g' (ocD ds) (.ref a) ∧ Rel K B g' ⟨s.e.set i (.dat (ocD ds)), s.n⟩ σ H := by
  obtain ⟨a, ea, vs, k1, k2, k3, k4, k5⟩ := R.own h
  have gx : Gx g (g.put a vs) := Gx.put k2
  have dl : DV K (g.put a vs) (ocD ds) (.ref a) := (k5.mono gx).dv (show upd g.G a _ a = _ from upd_same)
  have ne_of_B : ∀ b o, B.H b = some o → b ≠ a := fun b o e q => by rw [q, k1] at e; cases e
  have hli : i < s.e.length := (List.getElem?_eq_some_iff.mp h).1
  refine ⟨a, g.put a vs, ea, gx, dl, ⟨⟨fun b u e => ?_, fun b u e => ?_, R.gh.dr, fun b z => ?_, R.gh.mem.keep gx rfl rfl R.gh.mem.dz fun _ _ _ e _ => e⟩, ⟨fun b u e => ?_, R.ext.keep, R.ext.tb, fun b u e n nz => ?_, R.ext.th, R.ext.am, R.ext.zn, R.ext.lc⟩, ?_, fun j sl o h1 h2 => ?_, fun j k xs ys h1 h2 h3 => ?_, fun a' c e hh => ?_, fun p e => ?_, R.tb⟩⟩
  · by_cases q : b = a
    · rw [q] at e ⊢
      have e' : upd g.G a vs a = some u := e
      rw [upd_same] at e'
      rw [k4]
      exact e'
    · have e' : upd g.G a vs b = some u := e
      rw [upd_ne q] at e'
      exact R.gh.sub _ _ e'
  · by_cases q : b = a
    · rw [q] at e
      have e' : upd g.G a vs a = some u := e
      rw [upd_same] at e'
      cases e'
      exact k5.nt
    · have e' : upd g.G a vs b = some u := e
      rw [upd_ne q] at e'
      exact R.gh.nt _ _ e'
  · have q : b ≠ a := fun q => k3 (q ▸ z)
    show upd g.G a _ b = none
    rw [upd_ne q]
    exact R.gh.off b z
  · exact gx.1 _ _ (R.ext.sG b u e)
  · show upd g.G a _ b = none
    rw [upd_ne (ne_of_B b u e)]
    exact R.ext.out b u e n nz
  · show (s.e.set i _).length = _
    rw [List.length_set]
    exact R.len
  · by_cases e : i = j
    · subst e
      have h1' : (s.e.set i (.dat (ocD ds)))[i]? = some sl := h1
      rw [List.getElem?_set_self hli] at h1'
      cases h1'
      rw [ea] at h2
      cases h2
      exact ⟨_, rfl, dl⟩
    · have h1' : (s.e.set i (.dat (ocD ds)))[j]? = some sl := h1
      rw [List.getElem?_set_ne e] at h1'
      have q := R.sl j sl o h1' h2
      cases sl with
      | un => trivial
      | dat d =>
        obtain ⟨v, e1, hv⟩ := q
        exact ⟨v, e1, hv.mono gx⟩
      | own es =>
        obtain ⟨b, e1, us, j1, j2, j3, j4, j5⟩ := q
        have ne : b ≠ a := fun q => e (R.ap i j ds es h h1' (by rw [ea, h2, e1, q]))
        refine ⟨b, e1, us, j1, ?_, j3, j4, j5.mono gx⟩
        show upd g.G a _ b = none
        rw [upd_ne ne]
        exact j2
  · have nj : i ≠ j := fun e => by
      subst e
      have h1' : (s.e.set i (.dat (ocD ds)))[i]? = some (.own xs) := h1
      rw [List.getElem?_set_self hli] at h1'
      cases h1'
    have nk : i ≠ k := fun e => by
      subst e
      have h2' : (s.e.set i (.dat (ocD ds)))[i]? = some (.own ys) := h2
      rw [List.getElem?_set_self hli] at h2'
      cases h2'
    have h1' : (s.e.set i (.dat (ocD ds)))[j]? = some (.own xs) := h1
    have h2' : (s.e.set i (.dat (ocD ds)))[k]? = some (.own ys) := h2
    rw [List.getElem?_set_ne nj] at h1'
    rw [List.getElem?_set_ne nk] at h2'
    exact R.ap j k xs ys h1' h2' h3
  · have hh' : (s.e.set i (.dat (ocD ds)))[0]? = some (.own c) := hh
    by_cases q : i = 0
    · subst q
      rw [List.getElem?_set_self hli] at hh'
      cases hh'
    · rw [List.getElem?_set_ne q] at hh'
      exact R.me a' c e hh'
  · obtain ⟨ws, h1, h2, h3, h4⟩ := R.px p e
    refine ⟨ws, h1, h2.mono gx, ?_, h4⟩
    show upd g.G a _ p.1 = none
    rw [upd_ne fun q => by
      rw [q, k4] at h1
      cases h1
      cases ds <;> exact k5]
    exact h3
theorem rd_var {K : PySem.W.Frag} {i : Nat} (σ : L2.St) (H : Hp) (Q : VK) (h : rdE K B W (mVar i) σ H Q) : tVar i σ H Q := by
  obtain ⟨g, s, Qd, E, R, hm, hk, hx⟩ := h
  unfold mVar at hm
  split at hm
  · rename_i d e
    obtain ⟨v, h1, h2⟩ := R.dat e
    exact ⟨v, h1, hk g s H v d (Gx.refl _) R h2 hm⟩
  · rename_i ds e
    obtain ⟨a, g', h1, h2, h3, h4⟩ := R.freeze e
    exact ⟨_, h1, hk g' _ H _ _ h2 h4 h3 hm⟩
  · exact hm.elim
theorem pm_var (i : Nat) {x : Str} {pos : Pos} (hN : X.N[i]? = some x := by rfl) (hv : Vis X.env.scope x := by first | exact Or.inl rfl | exact Or.inr (Or.inl rfl) | exact Or.inr (Or.inr rfl)) (hd : (x == ("__debug__" : Str)) = false := by decide)
    (hcd : (x == ("__classdict__" : Str)) = false := by decide) : PM X B W (.Name x pos) (mVar i) := impE (pe_var hN hv hd hcd) rd_var
theorem rd_c {K : PySem.W.Frag} {d : D} {v : V} (hv : ∀ g, DV K g d v) (σ : L2.St) (H : Hp) (Q : VK) (h : rdE K B W (mC d) σ H Q) : tC v σ H Q := by
  obtain ⟨g, s, Qd, E, R, hm, hk, hx⟩ := h
  exact hk g s H v d (Gx.refl _) R (hv g) hm
theorem pm_int {i : Int} {j : Nat} {pos : Pos} : PM X B W (.Constant (.int i) j pos) (mC (.int i)) := impE pe_int (rd_c fun _ => DV.i)
theorem pm_bl {i : Bool} {j : Nat} {pos : Pos} : PM X B W (.Constant (.bool i) j pos) (mC (.bl i)) := impE pe_bl (rd_c fun _ => DV.b)
theorem pm_str {i : Str} {j : Nat} {pos : Pos} : PM X B W (.Constant (.str i) j pos) (mC (.str i)) := impE pe_str (rd_c fun _ => DV.s)
theorem pm_non {j : Nat} {pos : Pos} : PM X B W (.Constant .none j pos) (mC .non) := impE pe_non (rd_c fun _ => DV.n)
/-- a module's constant -/
theorem pm_glob {x : Str} {d : D} {v : V} {pos : Pos} (hm : ∃ u, X.mg x = some u ∧ RelV v u) (hv : ∀ g, DV X.K g d v) (hg : Gl X x := by rfl) (hd : (x == ("__debug__" : Str)) = false := by decide) : PM X B W (.Name x pos) (mC d) := by
  obtain ⟨u, h1, h2⟩ := hm
  exact impE (pe_glob hg h1 h2 hd) (rd_c hv)
def mOp (f : D → D → (D → Prop) → Prop) (ma mb : M D) : M D := fun s Q E => ma s (fun x s1 => mb s1 (fun y s2 => f x y fun z => Q z s2) E) E
def OpV (K : PySem.W.Frag) (r : R2) (f : D → D → (D → Prop) → Prop) : Prop := ∀ g H n d1 d2 x y (Qd : D → Prop) (Qv : VK), GhOk g H n → DV K g d1 x → DV K g d2 y → f d1 d2 Qd →
  (∀ g' H' v d, Ext g H g' H' → GhOk g' H' n → DV K g' d v → Qd d → Qv v H') → r x y H Qv
theorem rd_op {K : PySem.W.Frag} {r : R2} {f : D → D → (D → Prop) → Prop} {ma mb : M D} (ho : OpV K r f) (σ : L2.St) (H : Hp) (Q : VK) (h : rdE K B W (mOp f ma mb) σ H Q) : tOp r (rdE K B W ma) (rdE K B W mb) σ H Q := by
  obtain ⟨g, s, Qd, E, R, hm, hk, hx⟩ := h
  refine ⟨g, s, _, E, R, hm, fun g1 s1 H1 x d1 x1 R1 dx q1 => ?_, hx⟩
  refine ⟨g1, s1, _, E, R1, q1, fun g2 s2 H2 y d2 x2 R2 dy q2 => ?_, hx.mono x1⟩
  exact ho g2 H2 s2.n d1 d2 x y _ _ R2.gh (dx.mono x2) dy q2 fun g3 H3 v d e ok dv qd => hk g3 s2 H3 v d (x1.trans (x2.trans e.gx)) (R2.step e ok) dv qd
variable {a b c : Expr} {ma mb mc : M D} {pos : Pos}
theorem pm_op {op : Operator} {r : R2} {f : D → D → (D → Prop) → Prop} (ho : OpR X (binaryOp op) r) (hv : OpV X.K r f) (ha : PM X B W a ma) (hb : PM X B W b mb) : PM X B W (.BinOp a op b pos) (mOp f ma mb) :=
  impE (pe_op ho ha hb) (rd_op hv)
theorem pm_cmp {op : CmpOp} {r : R2} {f : D → D → (D → Prop) → Prop} (ho : OpR X (compareOp op) r) (hv : OpV X.K r f) (ha : PM X B W a ma) (hb : PM X B W b mb) (hm : behindInMarks op b = false) : PM X B W (.Compare a [op] [b] pos) (mOp f ma mb) :=
  impE (pe_cmpR ho ha hb hm) (rd_op hv)
theorem OpV.or {K : PySem.W.Frag} {r r' : R2} {f f' h : D → D → (D → Prop) → Prop} (hr : OpV K r f) (hr' : OpV K r' f') (hh : ∀ d e Q, h d e Q → f d e Q ∨ f' d e Q) : OpV K (fun x y H Q => r x y H Q ∨ r' x y H Q) h := by
  intro g H n d1 d2 x y Qd Qv ok h1 h2 hf hk
  rcases hh _ _ _ hf with q | q
  · exact .inl (hr g H n d1 d2 x y Qd Qv ok h1 h2 q hk)
  · exact .inr (hr' g H n d1 d2 x y Qd Qv ok h1 h2 q hk)
/-- an operation on ints -/
def dI (C : Int → Int → Prop) (f : Int → Int → D) : D → D → (D → Prop) → Prop
  | .int i, .int j, Q => C i j ∧ Q (f i j)
  | _, _, _ => False
theorem dI_ok {C : Int → Int → Prop} {f : Int → Int → D} {d e : D} {Q : D → Prop} (h : dI C f d e Q) : ∃ i j, d = .int i ∧ e = .int j ∧ C i j ∧ Q (f i j) := by
  unfold dI at h
  split at h
  · exact ⟨_, _, rfl, rfl, h.1, h.2⟩
  · exact h.elim
theorem opv_I {K : PySem.W.Frag} {C : Int → Int → Prop} {f : Int → Int → D} {k : Int → Int → V} (hv : ∀ g i j, DV K g (f i j) (k i j)) : OpV K (rI C k) (dI C f) := by
  intro g H n d1 d2 x y Qd Qv ok h1 h2 hf hk
  obtain ⟨i, j, rfl, rfl, hc, q⟩ := dI_ok hf
  exact ⟨i, j, h1.of_i, h2.of_i, hc, hk g H _ _ (Ext.refl _ _) ok (hv g i j) q⟩
theorem opv_I0 {K : PySem.W.Frag} {f : Int → Int → D} {k : Int → Int → V} (hv : ∀ g i j, DV K g (f i j) (k i j)) : OpV K (rI0 k) (dI (fun _ _ => True) f) := by
  intro g H n d1 d2 x y Qd Qv ok h1 h2 hf hk
  obtain ⟨i, j, rfl, rfl, hc, q⟩ := dI_ok hf
  exact ⟨i, j, h1.of_i, h2.of_i, hk g H _ _ (Ext.refl _ _) ok (hv g i j) q⟩
theorem op_mulG : OpR X (binaryOp .Mult) (rI IntMulOk fun i j => .int (i * j)) := opI fun _ _ _ _ _ _ _ hc q => PyProof.Rows.mul_int q hc
theorem pm_sub (ha : PM X B W a ma) (hb : PM X B W b mb) : PM X B W (.BinOp a .Sub b pos) (mOp (dI (fun _ _ => True) fun i j => .int (i - j)) ma mb) := pm_op op_sub (opv_I0 fun _ _ _ => DV.i) ha hb
theorem pm_fdiv (ha : PM X B W a ma) (hb : PM X B W b mb) : PM X B W (.BinOp a .FloorDiv b pos) (mOp (dI CDivW fun i j => .int (i / j)) ma mb) := pm_op op_fdivW (opv_I fun _ _ _ => DV.i) ha hb
theorem pm_mod (ha : PM X B W a ma) (hb : PM X B W b mb) : PM X B W (.BinOp a .Mod b pos) (mOp (dI (fun _ j => 0 < j) fun i j => .int (i % j)) ma mb) := pm_op op_mod (opv_I fun _ _ _ => DV.i) ha hb
theorem pm_pow (ha : PM X B W a ma) (hb : PM X B W b mb) : PM X B W (.BinOp a .Pow b pos) (mOp (dI CPow fun i j => .int (i ^ j.toNat)) ma mb) := pm_op op_pow (opv_I fun _ _ _ => DV.i) ha hb
def dS (d e : D) (Q : D → Prop) : Prop := ∃ x y, d = .str x ∧ e = .str y ∧ x.length + y.length ≤ sizeLine ∧ Q (.str (x ++ y))
def dL (d e : D) (Q : D → Prop) : Prop := ∃ x y, d = .lst x ∧ e = .lst y ∧ x.length + y.length ≤ sizeLine ∧ Q (.lst (x ++ y))
def dT (d e : D) (Q : D → Prop) : Prop := ∃ x y, d = .tup x ∧ e = .tup y ∧ x.length + y.length ≤ sizeLine ∧ Q (.tup (x ++ y))
theorem opv_S {K : PySem.W.Frag} : OpV K (fun x y H Q => ∃ i j, x = .str i ∧ y = .str j ∧ i.length + j.length ≤ sizeLine ∧ Q (.str (i ++ j)) H) dS := by
  intro g H n d1 d2 x y Qd Qv ok h1 h2 hf hk
  obtain ⟨i, j, rfl, rfl, hc, q⟩ := hf
  exact ⟨i, j, h1.of_s, h2.of_s, hc, hk g H _ _ (Ext.refl _ _) ok DV.s q⟩
theorem opv_L {K : PySem.W.Frag} : OpV K rCat dL := by
  intro g H n d1 d2 x y Qd Qv ok h1 h2 hf hk
  obtain ⟨i, j, rfl, rfl, hc, q⟩ := hf
  obtain ⟨p1, v1, rfl, e1, s1⟩ := h1.of_l
  obtain ⟨p2, v2, rfl, e2, s2⟩ := h2.of_l
  refine ⟨p1, p2, v1, v2, rfl, rfl, ok.sub _ _ e1, ok.sub _ _ e2, by rw [s1.length, s2.length]; exact hc, fun p hp => ?_⟩
  have gx := Gx.put (g := g) (p := p) (o := .lst (v1 ++ v2)) (ok.sub.free hp)
  exact hk _ _ _ _ (Ext.put ok.sub hp) (ok.put hp) (DV.l (show upd g.G p _ p = _ from upd_same) ((s1.app s2).mono gx)) q
theorem opv_T {K : PySem.W.Frag} : OpV K (rCatA K) dT := by
  intro g H n d1 d2 x y Qd Qv ok h1 h2 hf hk
  obtain ⟨i, j, rfl, rfl, hc, q⟩ := hf
  obtain ⟨p1, v1, rfl, e1, s1⟩ := id h1.of_t
  obtain ⟨p2, v2, rfl, e2, s2⟩ := id h2.of_t
  refine ⟨p1, p2, v1, v2, rfl, rfl, sameT ok.sub e1, sameT ok.sub e2, by rw [s1.length, s2.length]; exact hc, fun h => ?_, fun _ h => ?_, fun _ _ p hp => ?_⟩
  · have hi : i = [] := List.eq_nil_of_length_eq_zero (by rw [← s1.length, h]; rfl)
    subst hi
    exact hk g H _ _ (Ext.refl _ _) ok h2 q
  · have hj : j = [] := List.eq_nil_of_length_eq_zero (by rw [← s2.length, h]; rfl)
    subst hj
    rw [List.append_nil] at q
    exact hk g H _ _ (Ext.refl _ _) ok h1 q
  · have gx := Gx.put (g := g) (p := p) (o := .tup (v1 ++ v2)) (ok.sub.free hp)
    exact hk _ _ _ _ (Ext.put ok.sub hp) (ok.put hp) (DV.t (SqT.of (show upd g.G p _ p = _ from upd_same)) ((s1.app s2).mono gx)) q
def addD : D → D → (D → Prop) → Prop
  | .int i, .int j, Q => Q (.int (i + j))
  | .str x, .str y, Q => x.length + y.length ≤ sizeLine ∧ Q (.str (x ++ y))
  | .lst x, .lst y, Q => x.length + y.length ≤ sizeLine ∧ Q (.lst (x ++ y))
  | .tup x, .tup y, Q => x.length + y.length ≤ sizeLine ∧ Q (.tup (x ++ y))
  | _, _, _ => False
theorem pm_add (ha : PM X B W a ma) (hb : PM X B W b mb) : PM X B W (.BinOp a .Add b pos) (mOp addD ma mb) := by
  refine pm_op (OpR.or op_add (OpR.or op_add_str (OpR.or op_cat op_catA))) (OpV.or (opv_I0 (f := fun i j => .int (i + j)) fun _ _ _ => DV.i) (OpV.or opv_S (OpV.or opv_L opv_T (h := fun d e Q => dL d e Q ∨ dT d e Q) fun _ _ _ z => z) (h := fun d e Q => dS d e Q ∨ dL d e Q ∨ dT d e Q) fun _ _ _ z => z) ?_) ha hb
  intro d e Q h
  unfold addD at h
  split at h
  · exact .inl ⟨trivial, h⟩
  · exact .inr (.inl ⟨_, _, rfl, rfl, h⟩)
  · exact .inr (.inr (.inl ⟨_, _, rfl, rfl, h⟩))
  · exact .inr (.inr (.inr ⟨_, _, rfl, rfl, h⟩))
  · exact h.elim
end
end VL
namespace VL
open PySem L2
section
variable {X : Cx} {B : Bs} {W : WX} {a b c : Expr} {ma mb mc : M D} {pos : Pos}
def strRep (x : Str) (n : Nat) : Str := ⟨(List.replicate n x.cps.toList).flatten.toArray⟩
theorem rep_fold (x : Array Nat) : ∀ (n : Nat) (acc : Array Nat), (List.replicate n x).foldl (· ++ ·) acc = acc ++ (List.replicate n x.toList).flatten.toArray
  | 0, acc => by simp
  | n + 1, acc => by
    rw [List.replicate_succ, List.foldl_cons, rep_fold x n, List.replicate_succ, List.flatten_cons]
    apply Array.ext'
    simp
def rRepS : R2 := fun x y H Q => ∃ (z : Str) (k : Int), x = .str z ∧ y = .int k ∧ 0 ≤ k ∧ k ≤ 1000 ∧ z.length ≤ 1000 ∧ Q (.str (strRep z k.toNat)) H
theorem op_repS : OpR X (binaryOp .Mult) rRepS := by
  intro pins s σ H x y v u Q I rx ry h
  obtain ⟨z, k, rfl, rfl, h0, h1, hz, q⟩ := h
  obtain ⟨t, rfl⟩ := rx
  obtain ⟨t', rfl⟩ := ry
  have fin : ∀ (w : Str) (tt : Tok) (tk : Nat), w = strRep z k.toNat → EP X pins σ Q (.str w tt) { s with toks := tk } := fun w tt tk e => ⟨.str w, H, I.tok _, ⟨_, rfl⟩, by rw [e]; exact q⟩
  have hl : z.length * k.toNat ≤ 1000 * 1000 := Nat.mul_le_mul hz (by omega)
  refine PySem.P.mul_str (by rw [decide_eq_false (by omega), decide_eq_false (by omega)]; rfl) (fun hn _ => ?_) (fun hn _ => ?_) ?_
  · have h2 : (1000 : Int) ≤ (2 ^ 63 - 1) / k := (Int.le_ediv_iff_mul_le (by omega)).mpr (by omega)
    omega
  · unfold Builtin.Str.tooLong
    rw [sizeLine_eq]
    exact decide_eq_false (by omega)
  · by_cases c1 : k < 1
    · rw [if_pos c1]
      have e0 : k.toNat = 0 := by omega
      exact ⟨by decide, fin _ _ _ (by rw [e0]; rfl)⟩
    · rw [if_neg c1]
      by_cases c2 : (k == 1 || z.length == 0) = true
      · rw [if_pos c2]
        refine fin z t s.toks ?_
        rw [Bool.or_eq_true] at c2
        rcases c2 with c2 | c2
        · have e1 : k = 1 := eq_of_beq c2
          rw [e1]
          obtain ⟨cs⟩ := z
          simp [strRep]
        · have e1 : z.cps.size = 0 := eq_of_beq c2
          obtain ⟨cs⟩ := z
          have e2 : cs = #[] := Array.eq_empty_of_size_eq_zero e1
          subst e2
          simp [strRep]
      · rw [if_neg c2]
        have e3 : (⟨(List.replicate k.toNat z.cps).foldl (· ++ ·) #[]⟩ : Str) = strRep z k.toNat := by
          unfold strRep
          rw [rep_fold]
          simp
        refine ⟨?_, fin _ _ _ e3⟩
        rw [e3]
        unfold strRep
        show ((List.replicate k.toNat z.cps.toList).flatten.toArray).size ≤ _
        rw [List.size_toArray, PyProof.Rows.lm_len_rep_flat, sizeLine_eq]
        have e4 : z.cps.toList.length = z.length := by simp [Str.length]
        rw [e4, Nat.mul_comm]
        omega
theorem op_repT1 : OpR X (binaryOp .Mult) (fun x y H Q => ∃ l xs, x = .ref l ∧ y = .int 1 ∧ SqT X.K H l xs ∧ Q (.ref l) H) := by
  intro pins s σ H x y v u Q I rx ry h
  obtain ⟨l, xs, rfl, rfl, hT, q⟩ := h
  cases rx
  obtain ⟨t, rfl⟩ := ry
  obtain ⟨its, r, ⟨⟨cls, dd, data, sl⟩, ho, hc, n, hd⟩, hs⟩ := I.tuple hT
  simp only at hc hd
  subst hc hd
  have hm : Meets (Builtin.«tuple.__mul__» ⟨[.ref l, .int 1 t], []⟩) (fun _ R s => s.heap.get? l = some { cls := .type "tuple", dict := dd, data := .seq its.toArray n, slots := sl } ∧ R (.ok (.ret (Value.ref l))) s) :=
    .of_wp fun prog w A R s h => by
      obtain ⟨hp, g, d, tk, os⟩ := s
      obtain ⟨hl, h⟩ := h
      have f1 := AutoSeq1.idx_int
      have c1 : (its.toArray.isEmpty || (1 : Int) == 1) = true := by simp
      wp_walk using wpAny_loadPart' hl
      repeat (first
        | (refine wpAny_ite_true (decide_eq_true c1) ?_; wp_walk using wpAny_loadPart' hl))
      exact ⟨_, rfl, h⟩
  exact wpAny_binaryOp_repeat_ref (T := "tuple") (U := "int") (by decide) ⟨_, ho, rfl⟩ (fun s' => typeIs_int s' 1 t) noFill_tuple_mul F.fills_int_mul F.slot_int_rmul repeat_tuple F.slot_int_index.lookup
    (call_meets F.slot_int_rmul (typeIs_int s 1 t) F.entry_int_rmul (F.args_int_rmul_2 _ _) (int_rmul_tuple 1 t l its.toArray n dd sl)
      ⟨ho, rfl, ⟨_, ho, rfl⟩, call_meets F.slot_tuple_mul ⟨_, ho, rfl⟩ F.entry_tuple_mul (F.args_tuple_mul_2 _ _) hm ⟨ho, ⟨.ref l, H, I, rfl, q⟩⟩⟩)
end
end VL
namespace VL
open PySem L2
section
variable {X : Cx} {B : Bs} {W : WX} {a b c : Expr} {ma mb mc : M D} {pos : Pos}
theorem DVs.rep {K : PySem.W.Frag} {g : Gh} {ds : List D} {vs : List V} (h : DVs K g ds vs) : ∀ n : Nat, DVs K g (List.replicate n ds).flatten (List.replicate n vs).flatten
  | 0 => DVs.nil
  | n + 1 => by
    rw [List.replicate_succ, List.replicate_succ, List.flatten_cons, List.flatten_cons]
    exact h.app (DVs.rep h n)
def mulD : D → D → (D → Prop) → Prop
  | .int i, .int j, Q => IntMulOk i j ∧ Q (.int (i * j))
  | .str x, .int k, Q => (0 ≤ k ∧ k ≤ 1000 ∧ x.length ≤ 1000) ∧ Q (.str (strRep x k.toNat))
  | .lst x, .int k, Q => (0 ≤ k ∧ k ≤ 1000 ∧ x.length ≤ 1000) ∧ Q (.lst (List.replicate k.toNat x).flatten)
  | .tup x, .int k, Q => (1 ≤ k ∧ k ≤ 1000 ∧ x.length ≤ 1000 ∧ x ≠ []) ∧ Q (.tup (List.replicate k.toNat x).flatten)
  | _, _, _ => False
def dMS (d e : D) (Q : D → Prop) : Prop := ∃ x k, d = .str x ∧ e = .int k ∧ (0 ≤ k ∧ k ≤ 1000 ∧ x.length ≤ 1000) ∧ Q (.str (strRep x k.toNat))
def dML (d e : D) (Q : D → Prop) : Prop := ∃ x k, d = .lst x ∧ e = .int k ∧ (0 ≤ k ∧ k ≤ 1000 ∧ x.length ≤ 1000) ∧ Q (.lst (List.replicate k.toNat x).flatten)
def dMT (d e : D) (Q : D → Prop) : Prop := ∃ x k, d = .tup x ∧ e = .int k ∧ (1 ≤ k ∧ k ≤ 1000 ∧ x.length ≤ 1000 ∧ x ≠ []) ∧ Q (.tup (List.replicate k.toNat x).flatten)
theorem opv_MS {K : PySem.W.Frag} : OpV K rRepS dMS := by
  intro g H n d1 d2 x y Qd Qv ok h1 h2 hf hk
  obtain ⟨i, j, rfl, rfl, ⟨c1, c2, c3⟩, q⟩ := hf
  exact ⟨i, j, h1.of_s, h2.of_i, c1, c2, c3, hk g H _ _ (Ext.refl _ _) ok DV.s q⟩
theorem opv_ML {K : PySem.W.Frag} : OpV K rRep dML := by
  intro g H n d1 d2 x y Qd Qv ok h1 h2 hf hk
  obtain ⟨i, j, rfl, rfl, ⟨c1, c2, c3⟩, q⟩ := hf
  obtain ⟨p1, v1, rfl, e1, s1⟩ := h1.of_l
  have hl : v1.length * j.toNat ≤ 1000 * 1000 := Nat.mul_le_mul (by rw [s1.length]; exact c3) (by omega)
  refine ⟨p1, j, v1, rfl, h2.of_i, ok.sub _ _ e1, by omega, by omega, by rw [sizeLine_eq]; omega, fun p hp => ?_⟩
  have gx := Gx.put (g := g) (p := p) (o := .lst (List.replicate j.toNat v1).flatten) (ok.sub.free hp)
  exact hk _ _ _ _ (Ext.put ok.sub hp) (ok.put hp) (DV.l (show upd g.G p _ p = _ from upd_same) ((s1.rep _).mono gx)) q
theorem opv_MT {K : PySem.W.Frag} : OpV K (fun x y H Q => rRepT K x y H Q ∨ ∃ l xs, x = .ref l ∧ y = .int 1 ∧ SqT K H l xs ∧ Q (.ref l) H) dMT := by
  intro g H n d1 d2 x y Qd Qv ok h1 h2 hf hk
  obtain ⟨i, j, rfl, rfl, ⟨c1, c2, c3, c4⟩, q⟩ := hf
  obtain ⟨p1, v1, rfl, e1, s1⟩ := id h1.of_t
  by_cases h : j = 1
  · subst h
    refine .inr ⟨p1, v1, rfl, h2.of_i, sameT ok.sub e1, hk g H _ _ (Ext.refl _ _) ok h1 ?_⟩
    have e : (List.replicate (1 : Int).toNat i).flatten = i := by simp
    rw [e] at q
    exact q
  · refine .inl ⟨p1, j, v1, rfl, h2.of_i, sameT ok.sub e1, fun e => c4 (List.eq_nil_of_length_eq_zero (by rw [← s1.length, e]; rfl)), by omega, c2, by rw [s1.length]; exact c3, fun p hp => ?_⟩
    have gx := Gx.put (g := g) (p := p) (o := .tup (List.replicate j.toNat v1).flatten) (ok.sub.free hp)
    exact hk _ _ _ _ (Ext.put ok.sub hp) (ok.put hp) (DV.t (SqT.of (show upd g.G p _ p = _ from upd_same)) ((s1.rep _).mono gx)) q
theorem pm_mul (ha : PM X B W a ma) (hb : PM X B W b mb) : PM X B W (.BinOp a .Mult b pos) (mOp mulD ma mb) := by
  refine pm_op (OpR.or op_mulG (OpR.or op_repS (OpR.or op_rep (OpR.or op_repT op_repT1)))) (OpV.or (opv_I (C := IntMulOk) (f := fun i j => .int (i * j)) fun _ _ _ => DV.i) (OpV.or opv_MS (OpV.or opv_ML opv_MT (h := fun d e Q => dML d e Q ∨ dMT d e Q) fun _ _ _ z => z) (h := fun d e Q => dMS d e Q ∨ dML d e Q ∨ dMT d e Q) fun _ _ _ z => z) ?_) ha hb
  intro d e Q h
  unfold mulD at h
  split at h
  · exact .inl h
  · exact .inr (.inl ⟨_, _, rfl, rfl, h⟩)
  · exact .inr (.inr (.inl ⟨_, _, rfl, rfl, h⟩))
  · exact .inr (.inr (.inr ⟨_, _, rfl, rfl, h⟩))
  · exact h.elim
def mUn (f : D → (D → Prop) → Prop) (ma : M D) : M D := fun s Q E => ma s (fun x s1 => f x fun z => Q z s1) E
def negD : D → (D → Prop) → Prop
  | .int i, Q => Q (.int (-i))
  | _, _ => False
theorem pm_neg (ha : PM X B W a ma) : PM X B W (.UnaryOp .USub a pos) (mUn negD ma) := by
  refine impE (pe_un un_neg ha) fun σ H Q h => ?_
  obtain ⟨g, s, Qd, E, R, hm, hk, hx⟩ := h
  refine ⟨g, s, _, E, R, hm, fun g1 s1 H1 x d1 x1 R1 dx q1 => ?_, hx⟩
  cases d1 <;> first | exact (show False from q1).elim | skip
  rename_i i
  exact ⟨i, dx.of_i, hk g1 s1 H1 _ _ x1 R1 DV.i q1⟩
mutual
def py : D → PyData
  | .non => .none
  | .bl b => .bool b
  | .int i => .int i
  | .str x => .str x
  | .tup ds => .tuple (pys ds)
  | .lst ds => .list (pys ds)
  | .dct _ => .none
  | .fdc _ => .none
  | .ins _ _ => .none
  | .drw => .none
  | .scr _ => .none
  | .adr _ => .none
  | .exc _ _ => .none
  | .loc _ => .none
def pys : List D → List PyData
  | [] => []
  | d :: ds => py d :: pys ds
end
mutual
def good : D → Bool
  | .non => true
  | .bl _ => true
  | .int _ => true
  | .str x => PyData.strOk x
  | .tup ds => goods ds
  | .lst ds => goods ds
  | _ => false
def goods : List D → Bool
  | [] => true
  | d :: ds => good d && goods ds
end
def deepOk (d : D) : Bool := good d && decide ((py d).depth ≤ 64)
mutual
theorem canLay_py : ∀ d : D, good d = true → (py d).canLay0 = true
  | .non, _ => by simp [py, PyData.canLay0]
  | .bl _, _ => by simp [py, PyData.canLay0]
  | .int _, _ => by simp [py, PyData.canLay0]
  | .str x, h => by simpa [py, PyData.canLay0, good] using h
  | .tup ds, h => by
    simp only [py, PyData.canLay0]
    exact canLay_pys ds (by simpa [good] using h)
  | .lst ds, h => by
    simp only [py, PyData.canLay0]
    exact canLay_pys ds (by simpa [good] using h)
  | .dct _, h => by simp [good] at h
  | .fdc _, h => by simp [good] at h
  | .ins _ _, h => by simp [good] at h
  | .drw, h => by simp [good] at h
  | .scr _, h => by simp [good] at h
theorem canLay_pys : ∀ ds : List D, goods ds = true → PyData.canLayAll0 (pys ds) = true
  | [], _ => by simp [pys, PyData.canLayAll0]
  | d :: ds, h => by
    simp only [goods, Bool.and_eq_true] at h
    simp only [pys, PyData.canLayAll0, Bool.and_eq_true]
    exact ⟨canLay_py d h.1, canLay_pys ds h.2⟩
end
mutual
theorem dp_of {K : PySem.W.Frag} {g : Gh} {H : Hp} (hs : Same g.G H) : ∀ {d : D} {v : V}, DV K g d v → good d = true → Dp K H v (py d)
  | .non, _, h, _ => by rw [h.of_n]; simp only [py]; exact .non
  | .bl _, _, h, _ => by rw [h.of_b]; simp only [py]; exact .bl _
  | .int _, _, h, _ => by rw [h.of_i]; simp only [py]; exact .int _
  | .str _, _, h, _ => by rw [h.of_s]; simp only [py]; exact .str _
  | .tup ds, _, h, k => by
    obtain ⟨a, vs, rfl, h1, h2⟩ := h.of_t
    simp only [py]
    exact .tup (sameT hs h1) (dp_ofs hs h2 (by simpa [good] using k))
  | .lst ds, _, h, k => by
    obtain ⟨a, vs, rfl, h1, h2⟩ := h.of_l
    simp only [py]
    exact .lst (SqL.of (hs _ _ h1)) (dp_ofs hs h2 (by simpa [good] using k))
  | .dct _, _, _, h => by simp [good] at h
  | .fdc _, _, _, h => by simp [good] at h
  | .ins _ _, _, _, h => by simp [good] at h
  | .drw, _, _, h => by simp [good] at h
  | .scr _, _, _, h => by simp [good] at h
theorem dp_ofs {K : PySem.W.Frag} {g : Gh} {H : Hp} (hs : Same g.G H) : ∀ {ds : List D} {vs : List V}, DVs K g ds vs → goods ds = true → DpAll K H vs (pys ds)
  | [], _, h, _ => by rw [h.of_nil]; simp only [pys]; exact .nil
  | d :: ds, _, h, k => by
    obtain ⟨v, r, rfl, h1, h2⟩ := h.of_cons
    simp only [goods, Bool.and_eq_true] at k
    simp only [pys]
    exact .cons (dp_of hs h1 k.1) (dp_ofs hs h2 k.2)
end
theorem shaped_of {d : D} (h : deepOk d = true) : SeqAt.shaped (py d) = true := by
  unfold deepOk at h
  rw [Bool.and_eq_true] at h
  unfold SeqAt.shaped
  rw [Bool.and_eq_true]
  exact ⟨canLay_py d h.1, h.2⟩
theorem good_of {d : D} (h : deepOk d = true) : good d = true := by
  unfold deepOk at h
  exact (Bool.and_eq_true_iff.mp h).1
/-- == of two values -/
def eqD : D → D → (Bool → Prop) → Prop
  | .str x, .str y, Q => Q (x == y)
  | .int x, .int y, Q => Q (x == y)
  | .bl x, .bl y, Q => Q (x == y)
  | d, e, Q => (deepOk d = true ∧ deepOk e = true) ∧ Q (PyData.eqv (py d) (py e))
def eqP (d e : D) (Q : D → Prop) : Prop := eqD d e fun b => Q (.bl b)
def neP (d e : D) (Q : D → Prop) : Prop := eqD d e fun b => Q (.bl (!b))
def dEqD (f : Bool → Bool) (d e : D) (Q : D → Prop) : Prop := (deepOk d = true ∧ deepOk e = true) ∧ Q (.bl (f (PyData.eqv (py d) (py e))))
def dEqS (f : Bool → Bool) (d e : D) (Q : D → Prop) : Prop := (∃ x y, d = .str x ∧ e = .str y ∧ Q (.bl (f (x == y)))) ∨ (∃ x y, d = .int x ∧ e = .int y ∧ Q (.bl (f (x == y)))) ∨ ∃ x y, d = .bl x ∧ e = .bl y ∧ Q (.bl (f (x == y)))
theorem eqD_or {f : Bool → Bool} {d e : D} {Q : D → Prop} (h : eqD d e fun b => Q (.bl (f b))) : dEqS f d e Q ∨ dEqD f d e Q := by
  unfold eqD at h
  split at h
  · exact .inl (.inl ⟨_, _, rfl, rfl, h⟩)
  · exact .inl (.inr (.inl ⟨_, _, rfl, rfl, h⟩))
  · exact .inl (.inr (.inr ⟨_, _, rfl, rfl, h⟩))
  · exact .inr h
theorem opv_eqD {K : PySem.W.Frag} : OpV K (rEqD K) (dEqD fun b => b) := by
  intro g H n d1 d2 x y Qd Qv ok h1 h2 hf hk
  obtain ⟨⟨c1, c2⟩, q⟩ := hf
  exact ⟨_, _, dp_of ok.sub h1 (good_of c1), dp_of ok.sub h2 (good_of c2), shaped_of c1, shaped_of c2, hk g H _ _ (Ext.refl _ _) ok DV.b q⟩
theorem opv_neD {K : PySem.W.Frag} : OpV K (rNeD K) (dEqD fun b => !b) := by
  intro g H n d1 d2 x y Qd Qv ok h1 h2 hf hk
  obtain ⟨⟨c1, c2⟩, q⟩ := hf
  exact ⟨_, _, dp_of ok.sub h1 (good_of c1), dp_of ok.sub h2 (good_of c2), shaped_of c1, shaped_of c2, hk g H _ _ (Ext.refl _ _) ok DV.b q⟩
theorem opv_eqS {K : PySem.W.Frag} : OpV K rEq (dEqS fun b => b) := by
  intro g H n d1 d2 x y Qd Qv ok h1 h2 hf hk
  rcases hf with ⟨i, j, rfl, rfl, q⟩ | ⟨i, j, rfl, rfl, q⟩ | ⟨i, j, rfl, rfl, q⟩
  · rw [h1.of_s, h2.of_s]
    exact ⟨rfl, hk g H _ _ (Ext.refl _ _) ok (by rw [dec_str]; exact DV.b) q⟩
  · rw [h1.of_i, h2.of_i]
    exact ⟨rfl, hk g H _ _ (Ext.refl _ _) ok (by rw [dec_int]; exact DV.b) q⟩
  · rw [h1.of_b, h2.of_b]
    exact ⟨rfl, hk g H _ _ (Ext.refl _ _) ok (by rw [dec_bl]; exact DV.b) q⟩
theorem opv_neS {K : PySem.W.Frag} : OpV K rNe (dEqS fun b => !b) := by
  intro g H n d1 d2 x y Qd Qv ok h1 h2 hf hk
  rcases hf with ⟨i, j, rfl, rfl, q⟩ | ⟨i, j, rfl, rfl, q⟩ | ⟨i, j, rfl, rfl, q⟩
  · rw [h1.of_s, h2.of_s]
    exact ⟨rfl, hk g H _ _ (Ext.refl _ _) ok (by rw [dec_str]; exact DV.b) q⟩
  · rw [h1.of_i, h2.of_i]
    exact ⟨rfl, hk g H _ _ (Ext.refl _ _) ok (by rw [dec_int]; exact DV.b) q⟩
  · rw [h1.of_b, h2.of_b]
    exact ⟨rfl, hk g H _ _ (Ext.refl _ _) ok (by rw [dec_bl]; exact DV.b) q⟩
theorem pm_eq (hu : X.A.units + 64 < cLine) (ha : PM X B W a ma) (hb : PM X B W b mb) : PM X B W (.Compare a [.Eq] [b] pos) (mOp eqP ma mb) :=
  pm_cmp (OpR.or op_eq (op_eqD hu)) (OpV.or opv_eqS opv_eqD fun _ _ _ h => eqD_or h) ha hb (nomark _)
/-- order -/
def ordD (f : Int → Int → Bool) (k : Str → Str → Bool) : D → D → (D → Prop) → Prop
  | .int i, .int j, Q => Q (.bl (f i j))
  | .str x, .str y, Q => Q (.bl (k x y))
  | _, _, _ => False
def dOS (k : Str → Str → Bool) (d e : D) (Q : D → Prop) : Prop := ∃ x y, d = .str x ∧ e = .str y ∧ Q (.bl (k x y))
theorem ordD_or {f : Int → Int → Bool} {k : Str → Str → Bool} {d e : D} {Q : D → Prop} (h : ordD f k d e Q) : dI (fun _ _ => True) (fun i j => .bl (f i j)) d e Q ∨ dOS k d e Q := by
  unfold ordD at h
  split at h
  · exact .inl ⟨trivial, h⟩
  · exact .inr ⟨_, _, rfl, rfl, h⟩
  · exact h.elim
theorem opv_OS {K : PySem.W.Frag} {k : Str → Str → Bool} : OpV K (fun x y H Q => ∃ i j, x = .str i ∧ y = .str j ∧ Q (.bl (k i j)) H) (dOS k) := by
  intro g H n d1 d2 x y Qd Qv ok h1 h2 hf hk
  obtain ⟨i, j, rfl, rfl, q⟩ := hf
  exact ⟨i, j, h1.of_s, h2.of_s, hk g H _ _ (Ext.refl _ _) ok DV.b q⟩
def sLt (x y : Str) : Bool := decide (x.cps.toList < y.cps.toList)
theorem pm_lt (ha : PM X B W a ma) (hb : PM X B W b mb) : PM X B W (.Compare a [.Lt] [b] pos) (mOp (ordD (fun i j => decide (i < j)) sLt) ma mb) :=
  pm_cmp (OpR.or op_lt op_lt_str) (OpV.or (opv_I0 fun _ _ _ => DV.b) opv_OS fun _ _ _ h => ordD_or h) ha hb (nomark _)
/-- in -/
def flat : D → Bool
  | .non => true
  | .bl _ => true
  | .int _ => true
  | .str _ => true
  | _ => false
def eqF : D → D → Bool
  | .non, .non => true
  | .bl a, .bl b => a == b
  | .bl a, .int b => (if a then 1 else 0) == b
  | .int a, .bl b => a == (if b then 1 else 0)
  | .int a, .int b => a == b
  | .str a, .str b => a == b
  | _, _ => false
def inD (neg : Bool) : D → D → (D → Prop) → Prop
  | d, .lst ds, Q => (flat d = true ∧ ds.all flat = true) ∧ Q (.bl (xor neg (ds.any fun e => eqF e d)))
  | d, .tup ds, Q => (flat d = true ∧ ds.all flat = true) ∧ Q (.bl (xor neg (ds.any fun e => eqF e d)))
  | .str x, .str y, Q => ∃ c, x = ⟨#[c]⟩ ∧ Q (.bl (xor neg (decide (c ∈ y.cps.toList))))
  | _, _, _ => False
def dInS (neg : Bool) (d e : D) (Q : D → Prop) : Prop := ∃ c y, d = .str ⟨#[c]⟩ ∧ e = .str y ∧ Q (.bl (xor neg (decide (c ∈ y.cps.toList))))
def dInQ (neg : Bool) (d e : D) (Q : D → Prop) : Prop := ∃ ds, (e = .lst ds ∨ e = .tup ds) ∧ (flat d = true ∧ ds.all flat = true) ∧ Q (.bl (xor neg (ds.any fun e => eqF e d)))
theorem inD_or {neg : Bool} {d e : D} {Q : D → Prop} (h : inD neg d e Q) : dInQ neg d e Q ∨ dInS neg d e Q := by
  unfold inD at h
  split at h
  · exact .inl ⟨_, .inl rfl, h⟩
  · exact .inl ⟨_, .inr rfl, h⟩
  · obtain ⟨c, rfl, q⟩ := h
    exact .inr ⟨c, _, rfl, rfl, q⟩
  · exact h.elim
theorem flat_V {K : PySem.W.Frag} {g : Gh} {d : D} {v : V} (h : DV K g d v) (f : flat d = true) : flatV v = true ∧ ∀ {e : D} {u : V}, DV K g e u → flat e = true → eqV u v = eqF e d := by
  cases d <;> first | (simp [flat] at f; done) | skip
  · rw [h.of_n]
    refine ⟨rfl, fun {e u} k q => ?_⟩
    cases e <;> first | (simp [flat] at q; done) | skip
    · rw [k.of_n]; rfl
    · rw [k.of_b]; rfl
    · rw [k.of_i]; rfl
    · rw [k.of_s]; rfl
  · rw [h.of_b]
    refine ⟨rfl, fun {e u} k q => ?_⟩
    cases e <;> first | (simp [flat] at q; done) | skip
    · rw [k.of_n]; rfl
    · rw [k.of_b]; rfl
    · rw [k.of_i]; rfl
    · rw [k.of_s]; rfl
  · rw [h.of_i]
    refine ⟨rfl, fun {e u} k q => ?_⟩
    cases e <;> first | (simp [flat] at q; done) | skip
    · rw [k.of_n]; rfl
    · rw [k.of_b]; rfl
    · rw [k.of_i]; rfl
    · rw [k.of_s]; rfl
  · rw [h.of_s]
    refine ⟨rfl, fun {e u} k q => ?_⟩
    cases e <;> first | (simp [flat] at q; done) | skip
    · rw [k.of_n]; rfl
    · rw [k.of_b]; rfl
    · rw [k.of_i]; rfl
    · rw [k.of_s]; rfl
theorem flats_V {K : PySem.W.Frag} {g : Gh} {d : D} {v : V} (h : DV K g d v) (f : flat d = true) : ∀ {ds : List D} {vs : List V}, DVs K g ds vs → ds.all flat = true → vs.all flatV = true ∧ inV v vs = ds.any fun e => eqF e d
  | [], vs, k, _ => by rw [k.of_nil]; exact ⟨rfl, rfl⟩
  | e :: ds, vs, k, q => by
    obtain ⟨u, r, rfl, h1, h2⟩ := k.of_cons
    rw [List.all_cons, Bool.and_eq_true] at q
    obtain ⟨i1, i2⟩ := flats_V h f h2 q.2
    have fu := (flat_V h1 q.1).1
    have eu := (flat_V h f).2 h1 q.1
    refine ⟨by rw [List.all_cons, fu, i1]; rfl, ?_⟩
    unfold inV at i2 ⊢
    rw [List.any_cons, List.any_cons, eu, i2]
theorem opv_inQ {K : PySem.W.Frag} {neg : Bool} : OpV K (rIn K neg) (dInQ neg) := by
  intro g H n d1 d2 x y Qd Qv ok h1 h2 hf hk
  obtain ⟨ds, e, ⟨c1, c2⟩, q⟩ := hf
  have fin : ∀ vs, DVs K g ds vs → vs.all flatV = true ∧ Qv (.bl (if neg then !inV x vs else inV x vs)) H := fun vs hs => by
    obtain ⟨i1, i2⟩ := flats_V h1 c1 hs c2
    refine ⟨i1, hk g H _ _ (Ext.refl _ _) ok ?_ q⟩
    rw [i2]
    cases neg
    · simpa using DV.b
    · simpa using DV.b
  rcases e with rfl | rfl
  · obtain ⟨p, vs, rfl, e1, s1⟩ := h2.of_l
    exact ⟨p, vs, rfl, .inl (SqL.of (ok.sub _ _ e1)), (flat_V h1 c1).1, (fin vs s1).1, (fin vs s1).2⟩
  · obtain ⟨p, vs, rfl, e1, s1⟩ := h2.of_t
    exact ⟨p, vs, rfl, .inr (sameT ok.sub e1), (flat_V h1 c1).1, (fin vs s1).1, (fin vs s1).2⟩
theorem opv_inS {K : PySem.W.Frag} : OpV K (fun x y H Q => ∃ (c : Nat) (z : Str), x = .str ⟨#[c]⟩ ∧ y = .str z ∧ Q (.bl (decide (c ∈ z.cps.toList))) H) (dInS false) := by
  intro g H n d1 d2 x y Qd Qv ok h1 h2 hf hk
  obtain ⟨c, z, rfl, rfl, q⟩ := hf
  exact ⟨c, z, h1.of_s, h2.of_s, hk g H _ _ (Ext.refl _ _) ok (by simpa using DV.b) q⟩
theorem opv_niS {K : PySem.W.Frag} : OpV K (fun x y H Q => ∃ (c : Nat) (z : Str), x = .str ⟨#[c]⟩ ∧ y = .str z ∧ Q (.bl (!decide (c ∈ z.cps.toList))) H) (dInS true) := by
  intro g H n d1 d2 x y Qd Qv ok h1 h2 hf hk
  obtain ⟨c, z, rfl, rfl, q⟩ := hf
  exact ⟨c, z, h1.of_s, h2.of_s, hk g H _ _ (Ext.refl _ _) ok (by simpa using DV.b) q⟩
theorem pm_in (ha : PM X B W a ma) (hb : PM X B W b mb) (hm : behindInMarks .In b = false := by rfl) : PM X B W (.Compare a [.In] [b] pos) (mOp (inD false) ma mb) :=
  pm_cmp (OpR.or op_in_seq op_in_sign) (OpV.or opv_inQ opv_inS fun _ _ _ h => inD_or h) ha hb hm
/-- is -/
def isNon : D → Bool
  | .non => true
  | _ => false
def isD (neg : Bool) : D → D → (D → Prop) → Prop
  | d, .non, Q => Q (.bl (xor neg (isNon d)))
  | .bl x, .bl y, Q => Q (.bl (xor neg (x == y)))
  | _, _, _ => False
theorem non_V {K : PySem.W.Frag} {g : Gh} {d : D} {v : V} (h : DV K g d v) : decide (v = V.non) = isNon d := by
  cases d
  · rw [h.of_n]; rfl
  · rw [h.of_b]; rfl
  · rw [h.of_i]; rfl
  · rw [h.of_s]; rfl
  · obtain ⟨a, vs, rfl, _⟩ := h.of_t; rfl
  · obtain ⟨a, vs, rfl, _⟩ := h.of_l; rfl
  · simp only [DV] at h; obtain ⟨a, vs, rfl, _⟩ := h; rfl
  · simp only [DV] at h; obtain ⟨a, vs, o, rfl, _⟩ := h; rfl
  · simp only [DV] at h; obtain ⟨a, dx, vs, rfl, _⟩ := h; rfl
  · simp only [DV] at h; obtain ⟨z, _, rfl⟩ := h; rfl
  · simp only [DV] at h; obtain ⟨a, rfl, _⟩ := h; rfl
  · simp only [DV] at h; subst h; rfl
  · simp only [DV] at h; obtain ⟨a, d, vs, rfl, _⟩ := h; rfl
  · simp only [DV] at h; obtain ⟨a, f, _, rfl⟩ := h; rfl
def dIsN (neg : Bool) (d e : D) (Q : D → Prop) : Prop := e = .non ∧ Q (.bl (xor neg (isNon d)))
def dIsB (neg : Bool) (d e : D) (Q : D → Prop) : Prop := ∃ x y, d = .bl x ∧ e = .bl y ∧ Q (.bl (xor neg (x == y)))
theorem isD_or {neg : Bool} {d e : D} {Q : D → Prop} (h : isD neg d e Q) : dIsN neg d e Q ∨ dIsB neg d e Q := by
  unfold isD at h
  split at h
  · exact .inl ⟨rfl, h⟩
  · exact .inr ⟨_, _, rfl, rfl, h⟩
  · exact h.elim
theorem dec_beq (x y : Bool) : decide (x = y) = (x == y) := by cases x <;> cases y <;> rfl
end
end VL
namespace VL
open PySem L2
section
variable {X : Cx} {B : Bs} {W : WX} {a b c : Expr} {rest : List Expr} {ma mb mc : M D} {ta tb : M Bool} {pos : Pos}
def truD : D → (Bool → Prop) → Prop
  | .non, Q => Q false
  | .bl b, Q => Q b
  | .int i, Q => Q (i != 0)
  | .lst ds, Q => Q (!ds.isEmpty)
  | .tup ds, Q => Q (!ds.isEmpty)
  | _, _ => False
def mTru (m : M D) : M Bool := fun s Q E => m s (fun d s' => truD d fun b => Q b s') E
theorem empty_V {K : PySem.W.Frag} {g : Gh} {ds : List D} {vs : List V} (h : DVs K g ds vs) : vs.isEmpty = ds.isEmpty := by
  cases ds with
  | nil => rw [h.of_nil] <;> rfl
  | cons d ds =>
    obtain ⟨v, r, rfl, _⟩ := h.of_cons
    rfl
theorem tru_V {K : PySem.W.Frag} {g : Gh} {H : Hp} {n : Ms} (ok : GhOk g H n) {d : D} {v : V} {Q : Bool → Prop} (h : DV K g d v) (q : truD d Q) : ∃ k, TruV K v H k ∧ Q k := by
  cases d <;> first | exact (show False from q).elim | skip
  · rw [h.of_n]; exact ⟨_, rfl, q⟩
  · rw [h.of_b]; exact ⟨_, rfl, q⟩
  · rw [h.of_i]; exact ⟨_, rfl, q⟩
  · obtain ⟨p, vs, rfl, e, hs⟩ := h.of_t
    exact ⟨_, .inr (.inl ⟨vs, sameT ok.sub e, by rw [empty_V hs]⟩), q⟩
  · obtain ⟨p, vs, rfl, e, hs⟩ := h.of_l
    exact ⟨_, .inl ⟨vs, SqL.of (ok.sub _ _ e), by rw [empty_V hs]⟩, q⟩
theorem pt_tru (ha : PM X B W a ma) (he : ∀ whole, isTrue a X.env whole = (do let v ← whole; standAt a.pos; holding [v] (truthy v)) := by intro _; rfl) : PMT X B W a (mTru ma) := by
  refine impT (pt_truth ha he) fun σ H Q h => ?_
  obtain ⟨g, s, Qd, E, R, hm, hk, hx⟩ := h
  refine ⟨g, s, _, E, R, hm, fun g1 s1 H1 x d1 x1 R1 dx q1 => ?_, hx⟩
  obtain ⟨k, h1, h2⟩ := tru_V R1.gh dx q1
  exact ⟨k, h1, hk g1 s1 H1 k x1 R1 h2⟩
def mAnd (m k : M Bool) : M Bool := fun s Q E => m s (fun b s' => if b = true then k s' Q E else Q false s') E
def mOr (m k : M Bool) : M Bool := fun s Q E => m s (fun b s' => if b = true then Q true s' else k s' Q E) E
def mNot (m : M Bool) : M Bool := fun s Q E => m s (fun b s' => Q (!b) s') E
theorem pw_and1V (ha : PMT X B W a ta) : PMW X B W (.BoolOp .And [a] pos) ta := pw_and1 ha
theorem pw_or1V (ha : PMT X B W a ta) : PMW X B W (.BoolOp .Or [a] pos) ta := pw_or1 ha
theorem pw_andV (ha : PMT X B W a ta) (hb : PMW X B W (.BoolOp .And (b :: rest) pos) tb) : PMW X B W (.BoolOp .And (a :: b :: rest) pos) (mAnd ta tb) := by
  refine impW (pw_and ha hb) fun σ H Q h => ?_
  obtain ⟨g, s, Qd, E, R, hm, hk, hx⟩ := h
  refine ⟨g, s, _, E, R, hm, fun g1 s1 H1 k x1 R1 q1 => ?_, hx⟩
  cases k with
  | true => exact ⟨g1, s1, Qd, E, R1, q1, fun g2 s2 H2 k2 x2 => hk g2 s2 H2 k2 (x1.trans x2), hx.mono x1⟩
  | false => exact hk g1 s1 H1 false x1 R1 q1
theorem pw_orV (ha : PMT X B W a ta) (hb : PMW X B W (.BoolOp .Or (b :: rest) pos) tb) : PMW X B W (.BoolOp .Or (a :: b :: rest) pos) (mOr ta tb) := by
  refine impW (pw_or ha hb) fun σ H Q h => ?_
  obtain ⟨g, s, Qd, E, R, hm, hk, hx⟩ := h
  refine ⟨g, s, _, E, R, hm, fun g1 s1 H1 k x1 R1 q1 => ?_, hx⟩
  cases k with
  | false => exact ⟨g1, s1, Qd, E, R1, q1, fun g2 s2 H2 k2 x2 => hk g2 s2 H2 k2 (x1.trans x2), hx.mono x1⟩
  | true => exact hk g1 s1 H1 true x1 R1 q1
theorem pt_w (h : PMW X B W a ta) : PMT X B W a ta := h.pt
theorem pt_notV (ha : PMT X B W a ta) : PMT X B W (.UnaryOp .Not a pos) (mNot ta) := by
  refine impT (pt_not ha) fun σ H Q h => ?_
  obtain ⟨g, s, Qd, E, R, hm, hk, hx⟩ := h
  exact ⟨g, s, _, E, R, hm, fun g1 s1 H1 k x1 R1 q1 => hk g1 s1 H1 (!k) x1 R1 q1, hx⟩
/-- and, or, not as values, by truth -/
def mAndD (m k : M D) : M D := fun s Q E => m s (fun d s' => truD d fun b => if b = true then k s' Q E else Q d s') E
def mNotD (m : M D) : M D := fun s Q E => m s (fun d s' => truD d fun b => Q (.bl (!b)) s') E
theorem pm_one {op : BoolOp} (ha : PM X B W a ma) : PM X B W (.BoolOp op [a] pos) ma := pe_one ha
theorem pm_and (ha : PM X B W a ma) (hb : PM X B W (.BoolOp .And (b :: rest) pos) mb) : PM X B W (.BoolOp .And (a :: b :: rest) pos) (mAndD ma mb) := by
  refine impE (pe_andT ha hb) fun σ H Q h => ?_
  obtain ⟨g, s, Qd, E, R, hm, hk, hx⟩ := h
  refine ⟨g, s, _, E, R, hm, fun g1 s1 H1 x d1 x1 R1 dx q1 => ?_, hx⟩
  obtain ⟨k, h1, h2⟩ := tru_V R1.gh dx q1
  refine ⟨k, h1, ?_⟩
  cases k with
  | true => exact ⟨g1, s1, Qd, E, R1, h2, fun g2 s2 H2 v d x2 => hk g2 s2 H2 v d (x1.trans x2), hx.mono x1⟩
  | false => exact hk g1 s1 H1 _ _ x1 R1 dx h2
theorem pm_not (ha : PM X B W a ma) : PM X B W (.UnaryOp .Not a pos) (mNotD ma) := by
  refine impE (pe_notT ha) fun σ H Q h => ?_
  obtain ⟨g, s, Qd, E, R, hm, hk, hx⟩ := h
  refine ⟨g, s, _, E, R, hm, fun g1 s1 H1 x d1 x1 R1 dx q1 => ?_, hx⟩
  obtain ⟨k, h1, h2⟩ := tru_V R1.gh dx q1
  exact ⟨k, h1, hk g1 s1 H1 _ _ x1 R1 DV.b h2⟩
def mIf (t : M Bool) (m k : M D) : M D := fun s Q E => t s (fun b s' => if b = true then m s' Q E else k s' Q E) E
theorem pm_if (hc : PMT X B W c ta) (ha : PM X B W a ma) (hb : PM X B W b mb) : PM X B W (.IfExp c a b pos) (mIf ta ma mb) := by
  refine impE (pe_ifExp hc ha hb) fun σ H Q h => ?_
  obtain ⟨g, s, Qd, E, R, hm, hk, hx⟩ := h
  refine ⟨g, s, _, E, R, hm, fun g1 s1 H1 k x1 R1 q1 => ?_, hx⟩
  cases k with
  | true => exact ⟨g1, s1, Qd, E, R1, q1, fun g2 s2 H2 v d x2 => hk g2 s2 H2 v d (x1.trans x2), hx.mono x1⟩
  | false => exact ⟨g1, s1, Qd, E, R1, q1, fun g2 s2 H2 v d x2 => hk g2 s2 H2 v d (x1.trans x2), hx.mono x1⟩
/-- a <= b <= c -/
def mChain (f k : D → D → (D → Prop) → Prop) (ma mb mc : M D) : M D := fun s Q E => ma s (fun x s1 => mb s1 (fun y s2 => f x y fun z => ∃ q, z = .bl q ∧ if q = true then mc s2 (fun w s3 => k y w fun z => Q z s3) E else Q (.bl false) s2) E) E
theorem pm_chain {op op' : CmpOp} {r r' : R2} {f k : D → D → (D → Prop) → Prop} (ho : OpR X (compareOp op) r) (hv : OpV X.K r f) (ho' : OpR X (compareOp op') r') (hv' : OpV X.K r' k)
    (ha : PM X B W a ma) (hb : PM X B W b mb) (hc : PM X B W c mc) (h1 : lastMarks [op, op'] [b, c] = false) : PM X B W (.Compare a [op, op'] [b, c] pos) (mChain f k ma mb mc) := by
  refine impE (pe_chain ho ho' ha hb hc h1) fun σ H Q h => ?_
  obtain ⟨g, s, Qd, E, R, hm, hk, hx⟩ := h
  refine ⟨g, s, _, E, R, hm, fun g1 s1 H1 x d1 x1 R1 dx q1 => ?_, hx⟩
  refine ⟨g1, s1, _, E, R1, q1, fun g2 s2 H2 y d2 x2 R2 dy q2 => ?_, hx.mono x1⟩
  refine hv g2 H2 s2.n d1 d2 x y _ _ R2.gh (dx.mono x2) dy q2 fun g3 H3 v d e ok dv qd => ?_
  obtain ⟨q, rfl, qd⟩ := qd
  refine ⟨q, dv.of_b, ?_⟩
  have R3 : Rel X.K B g3 s2 σ H3 := R2.step e ok
  have x3 := x1.trans (x2.trans e.gx)
  cases q with
  | false => exact hk g3 s2 H3 _ _ x3 R3 DV.b qd
  | true =>
    refine ⟨g3, s2, _, E, R3, qd, fun g4 s4 H4 w d4 x4 R4 dw q4 => ?_, hx.mono x3⟩
    exact hv' g4 H4 s4.n d2 d4 y w _ _ R4.gh (dy.mono (e.gx.trans x4)) dw q4 fun g5 H5 v d e ok dv qd => hk g5 s4 H5 v d (x3.trans (x4.trans e.gx)) (R4.step e ok) dv qd
theorem pm_lele (ha : PM X B W a ma) (hb : PM X B W b mb) (hc : PM X B W c mc) (h1 : lastMarks [.LtE, .LtE] [b, c] = false := by rfl) : PM X B W (.Compare a [.LtE, .LtE] [b, c] pos)
    (mChain (ordD (fun i j => decide (i ≤ j)) fun x y => !sLt y x) (ordD (fun i j => decide (i ≤ j)) fun x y => !sLt y x) ma mb mc) :=
  pm_chain (OpR.or op_le op_le_str) (OpV.or (opv_I0 fun _ _ _ => DV.b) opv_OS fun _ _ _ h => ordD_or h) (OpR.or op_le op_le_str) (OpV.or (opv_I0 fun _ _ _ => DV.b) opv_OS fun _ _ _ h => ordD_or h) ha hb hc h1
def mNil : M (List D) := fun s Q _ => Q [] s
def mCons (m : M D) (k : M (List D)) : M (List D) := fun s Q E => m s (fun d s' => k s' (fun ds s'' => Q (d :: ds) s'') E) E
variable {es : List Expr} {mes : M (List D)}
theorem pma_nil : PMA X B W [] mNil := by
  refine impA pa_nil fun σ H Q h => ?_
  obtain ⟨g, s, Qd, E, R, hm, hk, hx⟩ := h
  exact hk g s H [] [] (Gx.refl _) R DVs.nil hm
theorem pma_cons (ha : PM X B W a ma) (hr : PMA X B W es mes) (hs : starEach (a :: es) X.env = (false, eval a X.env) :: starEach es X.env := by rfl) : PMA X B W (a :: es) (mCons ma mes) := by
  refine impA (pa_cons ha hr hs) fun σ H Q h => ?_
  obtain ⟨g, s, Qd, E, R, hm, hk, hx⟩ := h
  refine ⟨g, s, _, E, R, hm, fun g1 s1 H1 x d1 x1 R1 dx q1 => ?_, hx⟩
  exact ⟨g1, s1, _, E, R1, q1, fun g2 s2 H2 vs ds x2 R2 dv q2 => hk g2 s2 H2 _ _ (x1.trans x2) R2 (.cons (dx.mono x2) dv) q2, hx.mono x1⟩
def mTup (m : M (List D)) : M D := fun s Q E => m s (fun ds s' => ds.length ≤ sizeLine ∧ Q (.tup ds) s') E
def mLst (m : M (List D)) : M D := fun s Q E => m s (fun ds s' => ds.length ≤ sizeLine ∧ Q (.lst ds) s') E
theorem pm_tup {x1 : Nat} (h : PMA X B W es mes) : PM X B W (.Tuple es x1 pos) (mTup mes) := by
  refine impE (pe_tup h) fun σ H Q h => ?_
  obtain ⟨g, s, Qd, E, R, hm, hk, hx⟩ := h
  refine ⟨g, s, _, E, R, hm, fun g1 s1 H1 vs ds x1 R1 dv q1 => ⟨by rw [dv.length]; exact q1.1, fun p hp => ?_⟩, hx⟩
  have gx := Gx.put (g := g1) (p := p) (o := .tup vs) (R1.gn hp)
  exact hk _ _ _ _ _ (x1.trans gx) (R1.put hp) (DV.t (SqT.of (show upd g1.G p _ p = _ from upd_same)) (dv.mono gx)) q1.2
theorem pm_lst (h : PMA X B W es mes) : PM X B W (.List es pos) (mLst mes) := by
  refine impE (pe_lst h) fun σ H Q h => ?_
  obtain ⟨g, s, Qd, E, R, hm, hk, hx⟩ := h
  refine ⟨g, s, _, E, R, hm, fun g1 s1 H1 vs ds x1 R1 dv q1 => ⟨by rw [dv.length]; exact q1.1, fun p hp => ?_⟩, hx⟩
  have gx := Gx.put (g := g1) (p := p) (o := .lst vs) (R1.gn hp)
  exact hk _ _ _ _ _ (x1.trans gx) (R1.put hp) (DV.l (show upd g1.G p _ p = _ from upd_same) (dv.mono gx)) q1.2
theorem DVs.at {K : PySem.W.Frag} {g : Gh} {ds : List D} {vs : List V} {i : Int} {d : D} (h : DVs K g ds vs) (e : atI ds i = some d) : ∃ v, atI vs i = some v ∧ DV K g d v := by
  unfold atI at e ⊢
  rw [h.length]
  cases q : ixN ds.length i with
  | none => rw [q] at e; cases e
  | some j =>
    rw [q] at e
    exact h.get e
def idxD : D → D → (D → Prop) → Prop
  | .lst ds, .int i, Q => ∃ d, atI ds i = some d ∧ Q d
  | .tup ds, .int i, Q => ∃ d, atI ds i = some d ∧ Q d
  | .str x, .int i, Q => x.length ≤ sizeLine ∧ ∃ c, atI x.cps.toList i = some c ∧ Q (.str ⟨#[c]⟩)
  | _, _, _ => False
theorem opv_ix {K : PySem.W.Frag} : OpV K (rIx K) idxD := by
  intro g H n d1 d2 x y Qd Qv ok h1 h2 hf hk
  unfold idxD at hf
  split at hf
  · obtain ⟨d, e, q⟩ := hf
    obtain ⟨p, vs, rfl, e1, s1⟩ := h1.of_l
    obtain ⟨v, e2, dv⟩ := s1.at e
    exact .inl ⟨p, vs, _, v, rfl, h2.of_i, SqL.of (ok.sub _ _ e1), e2, hk g H _ _ (Ext.refl _ _) ok dv q⟩
  · obtain ⟨d, e, q⟩ := hf
    obtain ⟨p, vs, rfl, e1, s1⟩ := h1.of_t
    obtain ⟨v, e2, dv⟩ := s1.at e
    exact .inr (.inl ⟨p, vs, _, v, rfl, h2.of_i, sameT ok.sub e1, e2, hk g H _ _ (Ext.refl _ _) ok dv q⟩)
  · obtain ⟨hz, c, e, q⟩ := hf
    exact .inr (.inr ⟨_, _, c, h1.of_s, h2.of_i, hz, e, hk g H _ _ (Ext.refl _ _) ok DV.s q⟩)
  · exact hf.elim
theorem pm_ix (ha : PM X B W a ma) (hb : PM X B W b mb) (hs : PlainIx b := by exact fun _ _ => rfl) : PM X B W (.Subscript a b pos) (mOp idxD ma mb) := impE (pe_ix ix_seq ha hb hs) (rd_op opv_ix)
def cutG {α : Type} (xs : List α) (lo hi : Option Int) : List α := (xs.drop (HT.sIx xs.length 0 lo)).take (HT.sIx xs.length xs.length hi - HT.sIx xs.length 0 lo)
theorem DVs.cut {K : PySem.W.Frag} {g : Gh} {ds : List D} {vs : List V} {lo hi : Option Int} (h : DVs K g ds vs) : DVs K g (cutG ds lo hi) (cutV vs lo hi) := by
  unfold cutG cutV
  rw [h.length]
  exact (h.drop _).take _
def slD (d : D) (lo hi : Option Int) (Q : D → Prop) : Prop := match d with
  | .lst ds => Q (.lst (cutG ds lo hi))
  | .tup ds => Q (.tup (cutG ds lo hi))
  | .str x => x.length ≤ sizeLine ∧ Q (.str (cutS x lo hi))
  | _ => False
def rSl3 (K : PySem.W.Frag) : V → Option Int → Option Int → Hp → VK → Prop := fun x lo hi H Q => rSlL K x lo hi H Q ∨ rSlA K x lo hi H Q ∨ rSlS x lo hi H Q
theorem sl_V {K : PySem.W.Frag} {g : Gh} {H : Hp} {n : Ms} {d : D} {x : V} {lo hi : Option Int} {Qd : D → Prop} {Qv : VK} (ok : GhOk g H n) (h1 : DV K g d x) (hf : slD d lo hi Qd)
    (hk : ∀ g' H' v d, Ext g H g' H' → GhOk g' H' n → DV K g' d v → Qd d → Qv v H') : rSl3 K x lo hi H Qv := by
  cases d <;> first | exact (show False from hf).elim | skip
  · exact .inr (.inr ⟨_, h1.of_s, hf.1, hk g H _ _ (Ext.refl _ _) ok DV.s hf.2⟩)
  · obtain ⟨p, vs, rfl, e1, s1⟩ := id h1.of_t
    rename_i ds
    refine .inr (.inl ⟨p, vs, rfl, sameT ok.sub e1, fun hw => ?_, fun _ q hq => ?_⟩)
    · have ec : cutG ds lo hi = ds := by
        unfold cutG
        rw [← s1.length, hw.1, hw.2, List.drop_zero, Nat.sub_zero, s1.length, List.take_length]
      have hf' : Qd (.tup (cutG ds lo hi)) := hf
      rw [ec] at hf'
      exact hk g H _ _ (Ext.refl _ _) ok h1 hf'
    · have gx := Gx.put (g := g) (p := q) (o := .tup (cutV vs lo hi)) (ok.sub.free hq)
      exact hk _ _ _ _ (Ext.put ok.sub hq) (ok.put hq) (DV.t (SqT.of (show upd g.G q _ q = _ from upd_same)) (s1.cut.mono gx)) hf
  · obtain ⟨p, vs, rfl, e1, s1⟩ := id h1.of_l
    refine .inl ⟨p, vs, rfl, SqL.of (ok.sub _ _ e1), fun q hq => ?_⟩
    have gx := Gx.put (g := g) (p := q) (o := .lst (cutV vs lo hi)) (ok.sub.free hq)
    exact hk _ _ _ _ (Ext.put ok.sub hq) (ok.put hq) (DV.l (show upd g.G q _ q = _ from upd_same) (s1.cut.mono gx)) hf
def rdO (K : PySem.W.Frag) (B : Bs) (W : WX) (m : M (Option Int)) : TO := fun σ H Qv => ∃ g s Q E, Rel K B g s σ H ∧ m s Q E ∧
  (∀ g' s' H' o, Gx g g' → Rel K B g' s' σ H' → Q o s' → Qv o H') ∧ XOk K B W g σ E
def mNoP : M (Option Int) := fun s Q _ => Q none s
def mPart (m : M D) : M (Option Int) := fun s Q E => m s (fun d s' => match d with
  | .int i => Q (some i) s'
  | _ => False) E
theorem impO {e : Option Expr} {t t' : TO} (h : PO X e t) (f : ∀ σ H Q, t' σ H Q → t σ H Q) : PO X e t' := ⟨fun pins s σ H Q I q => h.run pins s σ H Q I (f σ H Q q)⟩
theorem pmo_none : PO X none (rdO X.K B W mNoP) := by
  refine impO po_none fun σ H Q h => ?_
  obtain ⟨g, s, Qd, E, R, hm, hk, hx⟩ := h
  exact hk g s H none (Gx.refl _) R hm
theorem pmo_some (ha : PM X B W a ma) : PO X (some a) (rdO X.K B W (mPart ma)) := by
  refine impO (po_some ha) fun σ H Q h => ?_
  obtain ⟨g, s, Qd, E, R, hm, hk, hx⟩ := h
  refine ⟨g, s, _, E, R, hm, fun g1 s1 H1 x d1 x1 R1 dx q1 => ?_, hx⟩
  cases d1 <;> first | exact (show False from q1).elim | skip
  exact ⟨_, dx.of_i, hk g1 s1 H1 _ x1 R1 q1⟩
def mSl (m : M D) (lo hi : M (Option Int)) : M D := fun s Q E => m s (fun d s1 => lo s1 (fun l s2 => hi s2 (fun u s3 => slD d l u fun z => Q z s3) E) E) E
theorem pm_sl {lo hi : Option Expr} {ml mh : M (Option Int)} {p2 : Pos} (ha : PM X B W a ma) (hl : PO X lo (rdO X.K B W ml)) (hh : PO X hi (rdO X.K B W mh)) : PM X B W (.Subscript a (.Slice lo hi none p2) pos) (mSl ma ml mh) := by
  refine impE (pe_slice (SlR.or sl_list (SlR.or sl_tupA sl_str)) ha hl hh) fun σ H Q h => ?_
  obtain ⟨g, s, Qd, E, R, hm, hk, hx⟩ := h
  refine ⟨g, s, _, E, R, hm, fun g1 s1 H1 x d1 x1 R1 dx q1 => ?_, hx⟩
  refine ⟨g1, s1, _, E, R1, q1, fun g2 s2 H2 l x2 R2 q2 => ?_, hx.mono x1⟩
  refine ⟨g2, s2, _, E, R2, q2, fun g3 s3 H3 u x3 R3 q3 => ?_, hx.mono (x1.trans x2)⟩
  exact sl_V R3.gh (dx.mono (x2.trans x3)) q3 fun g4 H4 v d e ok dv qd => hk g4 s3 H4 v d (x1.trans (x2.trans (x3.trans e.gx))) (R3.step e ok) dv qd
def mB (f : List D → (D → Prop) → Prop) (m : M (List D)) : M D := fun s Q E => m s (fun ds s' => f ds fun d => Q d s') E
def CalV (K : PySem.W.Frag) (r : List V → Hp → VK → Prop) (f : List D → (D → Prop) → Prop) : Prop := ∀ g H n ds vs (Qd : D → Prop) (Qv : VK), GhOk g H n → DVs K g ds vs → f ds Qd →
  (∀ g' H' v d, Ext g H g' H' → GhOk g' H' n → DV K g' d v → Qd d → Qv v H') → r vs H Qv
theorem rd_cb {K : PySem.W.Frag} {r : List V → Hp → VK → Prop} {f : List D → (D → Prop) → Prop} (hv : CalV K r f) (σ : L2.St) (H : Hp) (Q : VK) (h : rdE K B W (mB f mes) σ H Q) : tCB r (rdA K B W mes) σ H Q := by
  obtain ⟨g, s, Qd, E, R, hm, hk, hx⟩ := h
  refine ⟨g, s, _, E, R, hm, fun g1 s1 H1 vs ds x1 R1 dv q1 => ?_, hx⟩
  exact hv g1 H1 s1.n ds vs _ _ R1.gh dv q1 fun g3 H3 v d e ok dv qd => hk g3 s1 H3 v d (x1.trans e.gx) (R1.step e ok) dv qd
variable {x : Str} {p : Pos} {id T : String} {r : List V → Hp → VK → Prop} {f : List D → (D → Prop) → Prop}
theorem pm_cb (hc : CallR X (.builtin id) r) (hV : CalV X.K r f) (hg : Gl X x) (hm : X.mg x = none) (hv : bootBuiltins x = some (.builtin id)) (ha : PMA X B W (a :: es) mes) (hn : x ≠ "__name__" := by decide) (hdb : (x == ("__debug__" : Str)) = false := by decide)
    (he : starEach (a :: es) X.env = (false, eval a X.env) :: starEach es X.env := by rfl) (hpl : (backTo pos (starEach es X.env)).any (·.1) = false := by rfl) : PM X B W (.Call (.Name x p) (a :: es) [] pos) (mB f mes) :=
  impE (pe_callB hc hg hm hv ha hn hdb he hpl) (rd_cb hV)
theorem pm_ct (hc : CallR X (.type T) r) (hV : CalV X.K r f) (hg : Gl X x) (hm : X.mg x = none) (hv : bootBuiltins x = some (.type T)) (ha : PMA X B W (a :: es) mes) (hn : x ≠ "__name__" := by decide) (hdb : (x == ("__debug__" : Str)) = false := by decide)
    (he : starEach (a :: es) X.env = (false, eval a X.env) :: starEach es X.env := by rfl) (hpl : (backTo pos (starEach es X.env)).any (·.1) = false := by rfl) : PM X B W (.Call (.Name x p) (a :: es) [] pos) (mB f mes) :=
  impE (pe_callTy hc hg hm hv ha hn hdb he hpl) (rd_cb hV)
end
end VL
namespace VL
open PySem L2
section
variable {X : Cx} {B : Bs} {W : WX} {a b c : Expr} {es rest : List Expr} {ma mb mc : M D} {mes : M (List D)} {ta tb : M Bool} {p pos : Pos}
theorem DVs.one {K : PySem.W.Frag} {g : Gh} {d : D} {vs : List V} (h : DVs K g [d] vs) : ∃ v, vs = [v] ∧ DV K g d v := by
  obtain ⟨v, r, rfl, h1, h2⟩ := h.of_cons
  rw [h2.of_nil]
  exact ⟨v, rfl, h1⟩
theorem DVs.two {K : PySem.W.Frag} {g : Gh} {d e : D} {vs : List V} (h : DVs K g [d, e] vs) : ∃ v u, vs = [v, u] ∧ DV K g d v ∧ DV K g e u := by
  obtain ⟨v, r, rfl, h1, h2⟩ := h.of_cons
  obtain ⟨u, rfl, h3⟩ := h2.one
  exact ⟨v, u, rfl, h1, h3⟩
theorem DV.of_scr {K : PySem.W.Frag} {g : Gh} {ns : List Int} {v : V} (h : DV K g (.scr ns) v) : ∃ a, v = .ref a ∧ SqL K g.G a (ns.map V.int) := by simpa only [DV] using h
def lenD : List D → (D → Prop) → Prop
  | [.lst ds], Q => Q (.int ds.length)
  | [.tup ds], Q => Q (.int ds.length)
  | [.scr ds], Q => Q (.int ds.length)
  | [.str x], Q => x.length ≤ sizeLine ∧ Q (.int x.length)
  | _, _ => False
theorem cv_len {K : PySem.W.Frag} : CalV K (fun xs H Q => ∃ x n, xs = [x] ∧ LenV K x H n ∧ Q (.int n) H) lenD := by
  intro g H n ds vs Qd Qv ok hd hf hk
  unfold lenD at hf
  split at hf
  · obtain ⟨v, rfl, h1⟩ := hd.one
    obtain ⟨q, us, rfl, e1, s1⟩ := h1.of_l
    exact ⟨_, us.length, rfl, .inl ⟨us, SqL.of (ok.sub _ _ e1), rfl⟩, hk g H _ _ (Ext.refl _ _) ok (by rw [s1.length]; exact DV.i) hf⟩
  · obtain ⟨v, rfl, h1⟩ := hd.one
    obtain ⟨q, us, rfl, e1, s1⟩ := h1.of_t
    exact ⟨_, us.length, rfl, .inr ⟨us, sameT ok.sub e1, rfl⟩, hk g H _ _ (Ext.refl _ _) ok (by rw [s1.length]; exact DV.i) hf⟩
  · obtain ⟨v, rfl, h1⟩ := hd.one
    obtain ⟨q, rfl, e1⟩ := h1.of_scr
    exact ⟨_, _, rfl, .inl ⟨_, Same.seq ok.sub e1, rfl⟩, hk g H _ _ (Ext.refl _ _) ok (by rw [List.length_map]; exact DV.i) hf⟩
  · obtain ⟨v, rfl, h1⟩ := hd.one
    rw [h1.of_s]
    exact ⟨_, _, rfl, ⟨hf.1, rfl⟩, hk g H _ _ (Ext.refl _ _) ok DV.i hf.2⟩
  · exact hf.elim
theorem pm_len (hm : X.mg "len" = none) (ha : PM X B W a ma) (hg : Gl X "len" := by rfl) (hs : starEach [a] X.env = [(false, eval a X.env)] := by rfl) : PM X B W (.Call (.Name "len" p) [a] [] pos) (mB lenD (mCons ma mNil)) :=
  pm_cb call_len cv_len hg hm PySem.boot_len (pma_cons ha pma_nil hs) (by decide) (by decide) hs
def intD : List D → (D → Prop) → Prop
  | [.int i], Q => Q (.int i)
  | [.bl b], Q => Q (.int (if b then 1 else 0))
  | _, _ => False
theorem pm_intc (hm : X.mg "int" = none) (ha : PM X B W a ma) (hg : Gl X "int" := by rfl) (hs : starEach [a] X.env = [(false, eval a X.env)] := by rfl) : PM X B W (.Call (.Name "int" p) [a] [] pos) (mB intD (mCons ma mNil)) := by
  refine pm_ct call_int1 ?_ hg hm (by decide +kernel) (pma_cons ha pma_nil hs) (by decide) (by decide) hs
  intro g H n ds vs Qd Qv ok hd hf hk
  unfold intD at hf
  split at hf
  · obtain ⟨v, rfl, h1⟩ := hd.one
    rw [h1.of_i]
    exact .inl ⟨_, rfl, hk g H _ _ (Ext.refl _ _) ok DV.i hf⟩
  · obtain ⟨v, rfl, h1⟩ := hd.one
    rw [h1.of_b]
    exact .inr ⟨_, rfl, hk g H _ _ (Ext.refl _ _) ok DV.i hf⟩
  · exact hf.elim
def allD (ds : List D) (Q : D → Prop) : Prop := ∃ bs : List Bool, ds = [.lst (bs.map .bl)] ∧ Q (.bl (bs.all id))
theorem pm_all (hc : X.calm = true) (hm : X.mg "all" = none) (ha : PM X B W a ma) (hg : Gl X "all" := by rfl) (hs : starEach [a] X.env = [(false, eval a X.env)] := by rfl) : PM X B W (.Call (.Name "all" p) [a] [] pos) (mB allD (mCons ma mNil)) := by
  refine pm_cb (cr_all hc) ?_ hg hm (by decide +kernel) (pma_cons ha pma_nil hs) (by decide) (by decide) hs
  intro g H n ds vs Qd Qv ok hd hf hk
  obtain ⟨bs, rfl, q⟩ := hf
  obtain ⟨v, rfl, h1⟩ := hd.one
  obtain ⟨q', us, rfl, e1, s1⟩ := h1.of_l
  have e := s1.of_bls
  subst e
  exact ⟨_, bs, rfl, SqL.of (ok.sub _ _ e1), hk g H _ _ (Ext.refl _ _) ok DV.b q⟩
def tupleD : List D → (D → Prop) → Prop
  | [.lst ds], Q => Q (.tup ds)
  | [.tup ds], Q => Q (.tup ds)
  | _, _ => False
theorem pm_tuple (hm : X.mg "tuple" = none) (ha : PM X B W a ma) (hg : Gl X "tuple" := by rfl) (hs : starEach [a] X.env = [(false, eval a X.env)] := by rfl) : PM X B W (.Call (.Name "tuple" p) [a] [] pos) (mB tupleD (mCons ma mNil)) := by
  refine pm_ct call_tuple_of ?_ hg hm (by decide +kernel) (pma_cons ha pma_nil hs) (by decide) (by decide) hs
  intro g H n ds vs Qd Qv ok hd hf hk
  unfold tupleD at hf
  split at hf
  · obtain ⟨v, rfl, h1⟩ := hd.one
    obtain ⟨q, us, rfl, e1, s1⟩ := h1.of_l
    refine ⟨q, us, rfl, .inl ⟨SqL.of (ok.sub _ _ e1), fun l hl => ?_⟩⟩
    have gx := Gx.put (g := g) (p := l) (o := .tup us) (ok.sub.free hl)
    exact hk _ _ _ _ (Ext.put ok.sub hl) (ok.put hl) (DV.t (SqT.of (show upd g.G l _ l = _ from upd_same)) (s1.mono gx)) hf
  · obtain ⟨v, rfl, h1⟩ := hd.one
    obtain ⟨q, us, rfl, e1, s1⟩ := id h1.of_t
    exact ⟨q, us, rfl, .inr ⟨sameT ok.sub e1, hk g H _ _ (Ext.refl _ _) ok h1 hf⟩⟩
  · exact hf.elim
/-- sorted of texts -/
def sortD (ds : List D) (Q : D → Prop) : Prop := ∃ xs : List Str, ds = [.lst (xs.map .str)] ∧ xs.length < 64 ∧ ∀ ys : List Str, ys.Perm xs → PyProof.Rows.sortedS ys = true → Q (.lst (ys.map .str))
theorem pm_sorted (hm : X.mg "sorted" = none) (ha : PM X B W a ma) (hg : Gl X "sorted" := by rfl) (hs : starEach [a] X.env = [(false, eval a X.env)] := by rfl) : PM X B W (.Call (.Name "sorted" p) [a] [] pos) (mB sortD (mCons ma mNil)) := by
  refine pm_cb cr_sortedS ?_ hg hm (by decide +kernel) (pma_cons ha pma_nil hs) (by decide) (by decide) hs
  intro g H n ds vs Qd Qv ok hd hf hk
  obtain ⟨xs, rfl, hl, q⟩ := hf
  obtain ⟨v, rfl, h1⟩ := hd.one
  obtain ⟨q', us, rfl, e1, s1⟩ := h1.of_l
  have e := s1.of_strs
  subst e
  refine ⟨_, xs, rfl, SqL.of (ok.sub _ _ e1), hl, fun ys l h1 h2 hl => ?_⟩
  exact hk _ _ _ _ (Ext.put ok.sub hl) (ok.put hl) (DV.l (show upd g.G l _ l = _ from upd_same) DVs.strs) (q ys h1 h2)
def min2D : List D → (D → Prop) → Prop
  | [.int i, .int j], Q => Q (.int (if j < i then j else i))
  | _, _ => False
theorem pm_min2 (hc : X.calm = true) (hm : X.mg "min" = none) (ha : PM X B W a ma) (hb : PM X B W b mb) (hg : Gl X "min" := by rfl) (hs : starEach [a, b] X.env = (false, eval a X.env) :: starEach [b] X.env := by rfl) (hs2 : starEach [b] X.env = [(false, eval b X.env)] := by rfl)
    (hpl : (backTo pos (starEach [b] X.env)).any (·.1) = false := by rfl) : PM X B W (.Call (.Name "min" p) [a, b] [] pos) (mB min2D (mCons ma (mCons mb mNil))) := by
  refine pm_cb (call_min2 hc) ?_ hg hm (by decide +kernel) (pma_cons ha (pma_cons hb pma_nil hs2) hs) (by decide) (by decide) hs hpl
  intro g H n ds vs Qd Qv ok hd hf hk
  unfold min2D at hf
  split at hf
  · obtain ⟨v, u, rfl, h1, h2⟩ := hd.two
    rw [h1.of_i, h2.of_i]
    exact ⟨_, _, rfl, hk g H _ _ (Ext.refl _ _) ok DV.i hf⟩
  · exact hf.elim
def maxD (ds : List D) (Q : D → Prop) : Prop := ∃ bs : List Int, ds = [.lst (bs.map .int)] ∧ 0 < bs.length ∧ ∀ m, m ∈ bs → (∀ y ∈ bs, y ≤ m) → Q (.int m)
def minD (ds : List D) (Q : D → Prop) : Prop := ∃ bs : List Int, ds = [.lst (bs.map .int)] ∧ 0 < bs.length ∧ ∀ m, m ∈ bs → (∀ y ∈ bs, m ≤ y) → Q (.int m)
theorem pm_max (hc : X.calm = true) (hm : X.mg "max" = none) (ha : PM X B W a ma) (hg : Gl X "max" := by rfl) (hs : starEach [a] X.env = [(false, eval a X.env)] := by rfl) : PM X B W (.Call (.Name "max" p) [a] [] pos) (mB maxD (mCons ma mNil)) := by
  refine pm_cb (cr_max hc) ?_ hg hm (by decide +kernel) (pma_cons ha pma_nil hs) (by decide) (by decide) hs
  intro g H n ds vs Qd Qv ok hd hf hk
  obtain ⟨bs, rfl, hl, q⟩ := hf
  obtain ⟨v, rfl, h1⟩ := hd.one
  obtain ⟨q', us, rfl, e1, s1⟩ := h1.of_l
  have e := s1.of_ints
  subst e
  exact ⟨_, bs, rfl, SqL.of (ok.sub _ _ e1), hl, fun m h1 h2 => hk g H _ _ (Ext.refl _ _) ok DV.i (q m h1 h2)⟩
theorem pm_min (hc : X.calm = true) (hm : X.mg "min" = none) (ha : PM X B W a ma) (hg : Gl X "min" := by rfl) (hs : starEach [a] X.env = [(false, eval a X.env)] := by rfl) : PM X B W (.Call (.Name "min" p) [a] [] pos) (mB minD (mCons ma mNil)) := by
  refine pm_cb (cr_min hc) ?_ hg hm (by decide +kernel) (pma_cons ha pma_nil hs) (by decide) (by decide) hs
  intro g H n ds vs Qd Qv ok hd hf hk
  obtain ⟨bs, rfl, hl, q⟩ := hf
  obtain ⟨v, rfl, h1⟩ := hd.one
  obtain ⟨q', us, rfl, e1, s1⟩ := h1.of_l
  have e := s1.of_ints
  subst e
  exact ⟨_, bs, rfl, SqL.of (ok.sub _ _ e1), hl, fun m h1 h2 => hk g H _ _ (Ext.refl _ _) ok DV.i (q m h1 h2)⟩
def tyN : D → String
  | .non => "NoneType"
  | .bl _ => "bool"
  | .int _ => "int"
  | .str _ => "str"
  | .tup _ => "tuple"
  | .lst _ => "list"
  | .dct _ => "dict"
  | _ => ""
def tyOk : D → Bool
  | .ins _ _ => false
  | .fdc _ => false
  | .drw => false
  | .scr _ => false
  | .adr _ => false
  | .exc _ _ => false
  | .loc _ => false
  | _ => true
theorem ty_V {K : PySem.W.Frag} {g : Gh} {H : Hp} (hs : Same g.G H) {d : D} {v : V} (h : DV K g d v) (k : tyOk d = true) : TyX K H v (.type (tyN d)) := by
  cases d <;> first | (simp [tyOk] at k; done) | skip
  · rw [h.of_n]; exact .base .non
  · rw [h.of_b]; exact .base (.bl _)
  · rw [h.of_i]; exact .base (.int _)
  · rw [h.of_s]; exact .base (.str _)
  · obtain ⟨q, us, rfl, e1, s1⟩ := h.of_t
    rcases sameT hs e1 with (e | ⟨o, e⟩) | ⟨o, its, n, h1, h2, _⟩
    · exact .base (.tup e)
    · exact .fTuple e
    · exact .kTuple h1 h2
  · obtain ⟨q, us, rfl, e1, s1⟩ := h.of_l
    exact .base (.lst (hs _ _ e1))
  · simp only [DV] at h
    obtain ⟨q, us, rfl, e1, s1⟩ := h
    exact .base (.dK (hs _ _ e1))
/-- which built-in classes a value is of -/
def isInt : D → Bool
  | .int _ => true
  | .bl _ => true
  | _ => false
def isBool : D → Bool
  | .bl _ => true
  | _ => false
def isStr : D → Bool
  | .str _ => true
  | _ => false
def isTup : D → Bool
  | .tup _ => true
  | _ => false
def isLst : D → Bool
  | .lst _ => true
  | _ => false
def KitT (T : String) (f : D → Bool) : Prop := ∀ d : D, tyOk d = true → kitB (tyN d) T = some (f d)
theorem kit_int : KitT "int" isInt := fun d h => by cases d <;> first | (simp [tyOk] at h; done) | (simp only [tyN, isInt]; decide +kernel)
theorem kit_bool : KitT "bool" isBool := fun d h => by cases d <;> first | (simp [tyOk] at h; done) | (simp only [tyN, isBool]; decide +kernel)
theorem kit_str : KitT "str" isStr := fun d h => by cases d <;> first | (simp [tyOk] at h; done) | (simp only [tyN, isStr]; decide +kernel)
theorem kit_tuple : KitT "tuple" isTup := fun d h => by cases d <;> first | (simp [tyOk] at h; done) | (simp only [tyN, isTup]; decide +kernel)
theorem kit_list : KitT "list" isLst := fun d h => by cases d <;> first | (simp [tyOk] at h; done) | (simp only [tyN, isLst]; decide +kernel)
def isiD (f : D → Bool) (d : D) (Q : D → Prop) : Prop := tyOk d = true ∧ Q (.bl (f d))
theorem pm_isi {T : String} {f : D → Bool} {x : Str} {p2 : Pos} (hk : KitT T f) (hm : X.mg "isinstance" = none) (hmT : X.mg x = none) (hv : bootBuiltins x = some (.type T)) (ha : PM X B W a ma) (hg : Gl X "isinstance" := by rfl) (hgT : Gl X x := by rfl) (hn : x ≠ "__name__" := by decide) (hdb : (x == ("__debug__" : Str)) = false := by decide)
    (hs : starEach [a, .Name x p2] X.env = (false, eval a X.env) :: starEach [.Name x p2] X.env := by rfl) (hs2 : starEach [.Name x p2] X.env = (false, eval (.Name x p2) X.env) :: starEach [] X.env := by rfl)
    (hpl : (backTo pos (starEach [.Name x p2] X.env)).any (·.1) = false := by rfl) : PM X B W (.Call (.Name "isinstance" p) [a, .Name x p2] [] pos) (mUn (isiD f) ma) := by
  refine impE (pe_callB call_isi hg hm (by decide +kernel) (pa_cons ha (pa_cons (pe_bltn (v := .ty T) hgT hmT hv rfl hn hdb) pa_nil hs2) hs) (by decide) (by decide) hs hpl) fun σ H Q h => ?_
  obtain ⟨g, s, Qd, E, R, hm, hk', hx⟩ := h
  refine ⟨g, s, _, E, R, hm, fun g1 s1 H1 x d1 x1 R1 dx q1 => ?_, hx⟩
  exact ⟨x, .ty T, .type (tyN d1), .type T, _, rfl, .ty T, ty_V R1.gh.sub dx q1.1, kit_ty (hk d1 q1.1), hk' g1 s1 H1 _ _ x1 R1 DV.b q1.2⟩
def isi2D (f k : D → Bool) (d : D) (Q : D → Prop) : Prop := tyOk d = true ∧ Q (.bl (f d || k d))
/-- isinstance(a, (T, T')) -/
theorem pm_isi2 {T T' : String} {f k : D → Bool} {x x' : Str} {p2 p3 p4 : Pos} {kk : Nat} (hk : KitT T f) (hk2 : KitT T' k) (hm : X.mg "isinstance" = none) (hmT : X.mg x = none) (hv : bootBuiltins x = some (.type T)) (hmT' : X.mg x' = none) (hv' : bootBuiltins x' = some (.type T')) (ha : PM X B W a ma)
    (hg : Gl X "isinstance" := by rfl) (hgT : Gl X x := by rfl) (hgT' : Gl X x' := by rfl) (hn : x ≠ "__name__" := by decide) (hdb : (x == ("__debug__" : Str)) = false := by decide) (hn' : x' ≠ "__name__" := by decide) (hdb' : (x' == ("__debug__" : Str)) = false := by decide)
    (hs : starEach [a, .Tuple [.Name x p2, .Name x' p3] kk p4] X.env = (false, eval a X.env) :: starEach [.Tuple [.Name x p2, .Name x' p3] kk p4] X.env := by rfl)
    (hs2 : starEach [.Tuple [.Name x p2, .Name x' p3] kk p4] X.env = (false, eval (.Tuple [.Name x p2, .Name x' p3] kk p4) X.env) :: starEach [] X.env := by rfl)
    (hs3 : starEach [.Name x p2, .Name x' p3] X.env = (false, eval (.Name x p2) X.env) :: starEach [.Name x' p3] X.env := by rfl) (hs4 : starEach [.Name x' p3] X.env = (false, eval (.Name x' p3) X.env) :: starEach [] X.env := by rfl)
    (hpl : (backTo pos (starEach [.Tuple [.Name x p2, .Name x' p3] kk p4] X.env)).any (·.1) = false := by rfl) : PM X B W (.Call (.Name "isinstance" p) [a, .Tuple [.Name x p2, .Name x' p3] kk p4] [] pos) (mUn (isi2D f k) ma) := by
  refine impE (pe_callB call_isiT hg hm (by decide +kernel) (pa_cons ha (pa_cons (pe_tup (pa_cons (pe_bltn (v := .ty T) hgT hmT hv rfl hn hdb) (pa_cons (pe_bltn (v := .ty T') hgT' hmT' hv' rfl hn' hdb') pa_nil hs4) hs3)) pa_nil hs2) hs) (by decide) (by decide) hs hpl) fun σ H Q h => ?_
  obtain ⟨g, s, Qd, E, R, hm, hk', hx⟩ := h
  refine ⟨g, s, _, E, R, hm, fun g1 s1 H1 x d1 x1 R1 dx q1 => ?_, hx⟩
  refine ⟨by show 2 ≤ sizeLine; decide, fun tp htp => ?_⟩
  have R2 : Rel X.K B g1 s1 σ (upd H1 tp (.tup [.ty T, .ty T'])) := R1.new htp
  have kA : PySem.W.kitAny X.K (.type (tyN d1)) [.type T, .type T'] = some (f d1 || k d1) := by
    have k1 := kit_ty (K := X.K) (hk d1 q1.1)
    have k2 := kit_ty (K := X.K) (hk2 d1 q1.1)
    refine kitAny_cons k1 (fun e => ?_) (fun e => by rw [e]; rfl)
    rw [e, Bool.false_or]
    refine kitAny_cons k2 (fun e2 => ?_) (fun e2 => e2)
    rw [e2]
    rfl
  exact ⟨x, tp, [.ty T, .ty T'], .type (tyN d1), [.type T, .type T'], _, rfl, upd_same, .cons (.ty T) (.cons (.ty T') .nil), ty_V R2.gh.sub dx q1.1, kA, hk' g1 s1 _ _ _ x1 R2 DV.b q1.2⟩
end
end VL
namespace VL
open PySem L2
structure VE where
  nx : VS → Prop
  rt : D → Ms → Prop
  bk : VS → Prop
  ct : VS → Prop
  ex : MX
abbrev MS := VS → VE → Prop
structure EndOk (K : PySem.W.Frag) (B : Bs) (W : WX) (g : Gh) (k : VE) (Dn : Ends) : Prop where
  nx : ∀ g' s' σ' H', Gx g g' → Rel K B g' s' σ' H' → k.nx s' → Dn.nx σ' H'
  rt : ∀ g' n' H' v d, Gx g g' → Ext B.g B.H g' H' → GhOk g' H' n' → DV K g' d v → k.rt d n' → Dn.rt v H'
  bk : ∀ g' s' σ' H', Gx g g' → Rel K B g' s' σ' H' → k.bk s' → Dn.bk σ' H'
  ct : ∀ g' s' σ' H', Gx g g' → Rel K B g' s' σ' H' → k.ct s' → Dn.ct σ' H'
  ex : ∀ g' s' σ' H' x cls dd, Gx g g' → Rel K B g' s' σ' H' → ExcOk K g' H' x cls dd → k.ex x s' → W cls dd σ' H'
theorem EndOk.mono {K : PySem.W.Frag} {B : Bs} {W : WX} {g g' : Gh} {k : VE} {Dn : Ends} (h : EndOk K B W g k Dn) (x : Gx g g') : EndOk K B W g' k Dn :=
  ⟨fun g2 s2 σ2 H2 y => h.nx g2 s2 σ2 H2 (x.trans y), fun g2 n2 H2 v d y => h.rt g2 n2 H2 v d (x.trans y), fun g2 s2 σ2 H2 y => h.bk g2 s2 σ2 H2 (x.trans y), fun g2 s2 σ2 H2 y => h.ct g2 s2 σ2 H2 (x.trans y),
    fun g2 s2 σ2 H2 e c d y => h.ex g2 s2 σ2 H2 e c d (x.trans y)⟩
theorem EndOk.x {K : PySem.W.Frag} {B : Bs} {W : WX} {g : Gh} {k : VE} {Dn : Ends} (h : EndOk K B W g k Dn) (σ : L2.St) : XOk K B W g σ k.ex :=
  fun g' s' H' x cls dd => h.ex g' s' σ H' x cls dd
def rdS (K : PySem.W.Frag) (B : Bs) (W : WX) (m : MS) : TS := fun Dn σ H => ∃ g s k, Rel K B g s σ H ∧ m s k ∧ EndOk K B W g k Dn
abbrev PMS (X : Cx) (B : Bs) (W : WX) (st : Stmt) (m : MS) : Prop := PS X st (rdS X.K B W m)
abbrev PMSs (X : Cx) (B : Bs) (W : WX) (st : List Stmt) (m : MS) : Prop := PSs X st (rdS X.K B W m)
theorem impS {X : Cx} {e : Stmt} {t t' : TS} (h : PS X e t) (f : ∀ D σ H, t' D σ H → t D σ H) : PS X e t' := ⟨fun pins s σ H D I q => h.run pins s σ H D I (f D σ H q)⟩
theorem impSs {X : Cx} {e : List Stmt} {t t' : TS} (h : PSs X e t) (f : ∀ D σ H, t' D σ H → t D σ H) : PSs X e t' := ⟨fun pins s σ H D I q => h.run pins s σ H D I (f D σ H q)⟩
section
variable {X : Cx} {B : Bs} {W : WX} {a b c : Expr} {es : List Expr} {ma mb mc : M D} {mes : M (List D)} {ta tb : M Bool} {p pos : Pos} {st : Stmt} {sts : List Stmt} {m k : MS}
def mNext : MS := fun s K => K.nx s
def mSeq (m k : MS) : MS := fun s K => m s { K with nx := fun s' => k s' K }
theorem pms_nil : PMSs X B W [] mNext := impSs pss_nil fun D σ H ⟨g, s, k, R, hm, ok⟩ => ok.nx g s σ H (Gx.refl _) R hm
theorem pms_one (h : PMS X B W st m) : PMSs X B W [st] m := pss_one h
theorem pms_cons (h1 : PMS X B W st m) (h2 : PMSs X B W sts k) : PMSs X B W (st :: sts) (mSeq m k) := by
  refine impSs (pss_cons h1 h2) fun D σ H ⟨g, s, K, R, hm, ok⟩ => ?_
  refine ⟨g, s, _, R, hm, ⟨fun g1 s1 σ1 H1 x1 R1 q1 => ⟨g1, s1, K, R1, q1, ok.mono x1⟩, ok.rt, ok.bk, ok.ct, ok.ex⟩⟩
def mDrop (m : M D) : MS := fun s K => m s (fun _ s' => K.nx s') K.ex
theorem pms_expr (ha : PM X B W a ma) (hs : swapsWith a none pos.line X.env = pure false := by rfl) : PMS X B W (.Expr a pos) (mDrop ma) := by
  refine impS (ps_expr ha hs) fun D σ H ⟨g, s, K, R, hm, ok⟩ => ?_
  exact ⟨g, s, _, K.ex, R, hm, fun g1 s1 H1 v d x1 R1 dv q1 => ok.nx g1 s1 σ H1 x1 R1 q1, ok.x σ⟩
def mRet (m : M D) : MS := fun s K => m s (fun d s' => K.rt d s'.n) K.ex
theorem pms_ret (ha : PM X B W a ma) : PMS X B W (.Return (some a) pos) (mRet ma) := by
  refine impS (ps_ret ha) fun D σ H ⟨g, s, K, R, hm, ok⟩ => ?_
  exact ⟨g, s, _, K.ex, R, hm, fun g1 s1 H1 v d x1 R1 dv q1 => ok.rt g1 s1.n H1 v d x1 R1.ext R1.gh dv q1, ok.x σ⟩
def mIfS (t : M Bool) (m k : MS) : MS := fun s K => t s (fun b s' => if b = true then m s' K else k s' K) K.ex
theorem pms_if {sa sb : List Stmt} (hc : PMT X B W c ta) (ha : PMSs X B W sa m) (hb : PMSs X B W sb k) : PMS X B W (.If c sa sb pos) (mIfS ta m k) := by
  refine impS (ps_if hc ha hb) fun D σ H ⟨g, s, K, R, hm, ok⟩ => ?_
  refine ⟨g, s, _, K.ex, R, hm, fun g1 s1 H1 b x1 R1 q1 => ?_, ok.x σ⟩
  cases b with
  | true => exact ⟨g1, s1, K, R1, q1, ok.mono x1⟩
  | false => exact ⟨g1, s1, K, R1, q1, ok.mono x1⟩
def mCont : MS := fun s K => K.ct s
theorem pms_cont : PMS X B W (.Continue pos) mCont := impS ps_continue fun D σ H ⟨g, s, k, R, hm, ok⟩ => ok.ct g s σ H (Gx.refl _) R hm
def mSet (i : Nat) (m : M D) : MS := fun s K => m s (fun d s' => K.nx ⟨s'.e.set i (.dat d), s'.n⟩) K.ex
theorem rd_set {i : Nat} {K : PySem.W.Frag} {te : TE} (D : Ends) (σ : L2.St) (H : Hp) (h : rdS K B W (mSet i ma) D σ H) : tAsg (rdE K B W ma) (gName i) D σ H := by
  obtain ⟨g, s, K', R, hm, ok⟩ := h
  exact ⟨g, s, _, K'.ex, R, hm, fun g1 s1 H1 v d x1 R1 dv q1 => ok.nx g1 _ _ H1 x1 (R1.setD dv) q1, ok.x σ⟩
theorem pms_set (i : Nat) {x : Str} {pos' : Pos} (hN : X.N.Nodup) (ha : PM X B W a ma) (hi : X.N[i]? = some x := by rfl) (hx : Loc X.env.scope x := by first | exact Or.inl rfl | exact Or.inr rfl) (hs : swapsWith a (some (.Name x pos')) pos.line X.env = pure false := by rfl)
    (hf : X.fn x = true ∨ X.env.scope.names.lookup x = some .local := by first | exact .inl rfl | exact .inr rfl | assumption) : PMS X B W (.Assign [.Name x pos'] a pos) (mSet i ma) :=
  impS (ps_set hN hi hx ha hs hf) (rd_set (te := rdE X.K B W ma))
/-- a slot is set to a new list that it owns -/
theorem Rel.setO {K : PySem.W.Frag} {g : Gh} {s : VS} {σ : L2.St} {H : Hp} {i : Nat} {ds : OC} {vs : HO} {q : Addr} (R : Rel K B g s σ H) (hp : H q = none) (hd : OcV K g ds vs) (h0 : i ≠ 0) :
    Rel K B g ⟨s.e.set i (.own ds), s.n⟩ (σ.set i (some (.ref q))) (upd H q vs) := by
  have R2 : Rel K B g s σ (upd H q vs) := R.new hp
  have bq : B.H q = none := by
    cases e : B.H q with
    | none => rfl
    | some o =>
      obtain ⟨o', h⟩ := R.ext.th q o e
      rw [hp] at h
      cases h
  have no : ∀ (j : Nat) xs, s.e[j]? = some (.own xs) → σ[j]? ≠ some (some (.ref q)) := fun j xs h e => by
    obtain ⟨a, e1, us, _, _, _, k4, _⟩ := R.own h
    rw [e] at e1
    have ea : q = a := V.ref.inj (Option.some.inj (Option.some.inj e1))
    rw [← ea, hp] at k4
    cases k4
  refine ⟨R2.gh, R2.ext, ?_, fun j sl o h1 h2 => ?_, fun j k xs ys h1 h2 h3 => ?_, fun a c e hh => ?_, R2.px, R2.tb⟩
  · show (s.e.set i _).length = (σ.set i _).length
    rw [List.length_set, List.length_set]
    exact R.len
  · have h1' : (s.e.set i (.own ds))[j]? = some sl := h1
    by_cases e : i = j
    · subst e
      have hl : i < s.e.length := by
        have := (List.getElem?_eq_some_iff.mp h1').1
        rwa [List.length_set] at this
      rw [List.getElem?_set_self hl] at h1'
      rw [List.getElem?_set_self (by rw [← R.len]; exact hl)] at h2
      cases h1'
      cases h2
      exact ⟨q, rfl, vs, bq, R.gn hp, R.gh.nzone hp, upd_same, hd⟩
    · rw [List.getElem?_set_ne e] at h1' h2
      exact R2.sl j sl o h1' h2
  · have h1' : (s.e.set i (.own ds))[j]? = some (.own xs) := h1
    have h2' : (s.e.set i (.own ds))[k]? = some (.own ys) := h2
    by_cases ej : i = j
    · by_cases ek : i = k
      · rw [← ej, ← ek]
      · subst ej
        rw [List.getElem?_set_ne ek] at h2' h3
        have hl : i < s.e.length := by
          have := (List.getElem?_eq_some_iff.mp h1').1
          rwa [List.length_set] at this
        rw [List.getElem?_set_self (by rw [← R.len]; exact hl)] at h3
        exact (no k ys h2' h3.symm).elim
    · by_cases ek : i = k
      · subst ek
        rw [List.getElem?_set_ne ej] at h1' h3
        have hl : i < s.e.length := by
          have := (List.getElem?_eq_some_iff.mp h2').1
          rwa [List.length_set] at this
        rw [List.getElem?_set_self (by rw [← R.len]; exact hl)] at h3
        exact (no j xs h1' h3).elim
      · rw [List.getElem?_set_ne ej] at h1' h3
        rw [List.getElem?_set_ne ek] at h2' h3
        exact R.ap j k xs ys h1' h2' h3
  · have hh' : (s.e.set i (.own ds))[0]? = some (.own c) := hh
    rw [List.getElem?_set_ne h0] at hh' ⊢
    exact R.me a c e hh'
def mOwn (i : Nat) (m : M (List D)) : MS := fun s K => m s (fun ds s' => ds.length ≤ sizeLine ∧ K.nx ⟨s'.e.set i (.own (.l ds)), s'.n⟩) K.ex
/-- x = [..], x a name through which the list is changed later -/
theorem pms_own (i : Nat) {x : Str} {pos' lp : Pos} (hN : X.N.Nodup) (ha : PMA X B W es mes) (h0 : i ≠ 0 := by decide) (hi : X.N[i]? = some x := by rfl) (hx : Loc X.env.scope x := by first | exact Or.inl rfl | exact Or.inr rfl) (hs : swapsWith (.List es lp) (some (.Name x pos')) pos.line X.env = pure false := by rfl)
    (hf : X.fn x = true ∨ X.env.scope.names.lookup x = some .local := by first | exact .inl rfl | exact .inr rfl | assumption) : PMS X B W (.Assign [.Name x pos'] (.List es lp) pos) (mOwn i mes) := by
  refine impS (ps_set hN hi hx (pe_lst ha) hs hf) fun D σ H ⟨g, s, K, R, hm, ok⟩ => ?_
  refine ⟨g, s, _, K.ex, R, hm, fun g1 s1 H1 vs ds x1 R1 dv q1 => ⟨by rw [dv.length]; exact q1.1, fun q hq => ?_⟩, ok.x σ⟩
  exact ok.nx g1 _ _ _ x1 (R1.setO (ds := .l ds) (vs := .lst vs) hq dv h0) q1.2
/-- a list that is owned is changed -/
theorem Rel.chg {K : PySem.W.Frag} {g : Gh} {s : VS} {σ : L2.St} {H : Hp} {i : Nat} {ds es : OC} {us : HO} {q : Addr} (R : Rel K B g s σ H) (h : s.e[i]? = some (.own ds)) (hq : σ[i]? = some (some (.ref q))) (hd : OcV K g es us) :
    Rel K B g ⟨s.e.set i (.own es), s.n⟩ σ (upd H q us) := by
  obtain ⟨q', e1, vs, k1, k2, k3, k4, k5⟩ := R.own h
  rw [hq] at e1
  have eq : q = q' := V.ref.inj (Option.some.inj (Option.some.inj e1))
  subst eq
  have hli : i < s.e.length := (List.getElem?_eq_some_iff.mp h).1
  have nz : ∀ z, g.r = some z → q ≠ z.am ∧ q ≠ z.ac ∧ q ≠ z.al := fun z e => ⟨fun e2 => k3 (.inl ⟨z, e, .inl e2⟩), fun e2 => k3 (.inl ⟨z, e, .inr (.inl e2)⟩), fun e2 => k3 (.inl ⟨z, e, .inr (.inr e2)⟩)⟩
  refine ⟨⟨fun b u e => ?_, R.gh.nt, fun z e => ?_, R.gh.off, R.gh.mem.keep (Gx.refl _) rfl rfl R.gh.mem.dz fun a o l e _ => (upd_ne fun (z : a = q) => k3 (.inr (z ▸ l))).trans e⟩, ⟨R.ext.sG, fun b o e hz ht => ?_, ⟨R.ext.tb.1, fun t => tab_chg k4 k5.nt k5.nc _ (R.ext.tb.2 t)⟩, R.ext.out, fun b o e => ?_, R.ext.am, R.ext.zn, R.ext.lc⟩, ?_, fun j sl o h1 h2 => ?_, fun j k xs ys h1 h2 h3 => ?_, fun a' c e hh => ?_, fun p e => ?_, ⟨R.tb.t, R.tb.k, tab_chg k4 k5.nt k5.nc _ R.tb.s⟩⟩
  · rw [upd_ne (fun z => by rw [z, k2] at e; cases e)]
    exact R.gh.sub _ _ e
  · obtain ⟨d, hn⟩ := R.gh.dr z e
    obtain ⟨n1, n2, n3⟩ := nz z e
    exact ⟨⟨by rw [upd_ne n1.symm]; exact d.m, by rw [upd_ne n2.symm]; exact d.c, by rw [upd_ne n3.symm]; exact d.l, d.ne, d.bits, d.clen, d.pos, d.llen⟩, hn⟩
  · rw [upd_ne (fun z => by rw [z, k1] at e; cases e)]
    exact R.ext.keep b o e hz ht
  · by_cases e2 : b = q
    · rw [e2, k1] at e
      cases e
    · obtain ⟨o', h'⟩ := R.ext.th b o e
      exact ⟨o', by rw [upd_ne e2]; exact h'⟩
  · show (s.e.set i _).length = _
    rw [List.length_set]
    exact R.len
  · have h1' : (s.e.set i (.own es))[j]? = some sl := h1
    by_cases e : i = j
    · subst e
      rw [List.getElem?_set_self hli] at h1'
      cases h1'
      rw [hq] at h2
      cases h2
      exact ⟨q, rfl, us, k1, k2, k3, upd_same, hd⟩
    · rw [List.getElem?_set_ne e] at h1'
      have z := R.sl j sl o h1' h2
      cases sl with
      | un => trivial
      | dat d => exact z
      | own fs =>
        obtain ⟨b, e2, ws, j1, j2, j3, j4, j5⟩ := z
        have ne : b ≠ q := fun z => e (R.ap i j ds fs h h1' (by rw [hq, h2, e2, z]))
        exact ⟨b, e2, ws, j1, j2, j3, by rw [upd_ne ne]; exact j4, j5⟩
  · have h1' : (s.e.set i (.own es))[j]? = some (.own xs) := h1
    have h2' : (s.e.set i (.own es))[k]? = some (.own ys) := h2
    have f : ∀ (j : Nat) zs, (s.e.set i (.own es))[j]? = some (.own zs) → ∃ ws, s.e[j]? = some (.own ws) := fun j zs hj => by
      by_cases e : i = j
      · subst e
        exact ⟨ds, h⟩
      · rw [List.getElem?_set_ne e] at hj
        exact ⟨zs, hj⟩
    obtain ⟨w1, i1⟩ := f j xs h1'
    obtain ⟨w2, i2⟩ := f k ys h2'
    exact R.ap j k w1 w2 i1 i2 h3
  · have hh' : (s.e.set i (.own es))[0]? = some (.own c) := hh
    by_cases z : i = 0
    · subst z
      exact R.me a' ds e h
    · rw [List.getElem?_set_ne z] at hh'
      exact R.me a' c e hh'
  · obtain ⟨ws, h1, h2, h3, h4⟩ := R.px p e
    refine ⟨ws, ?_, h2, h3, h4⟩
    rw [upd_ne fun z => by
      rw [z, k4] at h1
      cases h1
      cases ds <;> exact k5]
    exact h1
def mApp (i : Nat) (m : M D) : MS := fun s K => match s.e[i]? with
  | some (.own (.l _)) => m s (fun d s' => match s'.e[i]? with
    | some (.own (.l ds)) => ds.length < sizeLine ∧ K.nx ⟨s'.e.set i (.own (.l (ds ++ [d]))), s'.n⟩
    | _ => False) K.ex
  | _ => False
/-- x.append(a) -/
theorem pms_app (i : Nat) {x : Str} {xp apos cpos : Pos} (ha : PM X B W a ma) (hi : X.N[i]? = some x := by rfl) (hx : Vis X.env.scope x := by first | exact Or.inl rfl | exact Or.inr (Or.inl rfl))
    (hd : (x == ("__debug__" : Str)) = false := by decide) (hcd : (x == ("__classdict__" : Str)) = false := by decide) (hbase : attributeBase (.Name x xp) "append" X.env (eval (.Name x xp) X.env) = eval (.Name x xp) X.env := by rfl)
    (hfew : ((backTo cpos (starEach [a] X.env)).all (fun x => !x.1) && (backToKw cpos (keywordEach [] X.env)).all (fun x => x.1.isSome)
      && decide ([a].length + ([] : List Keyword).length + (if ([] : List Keyword).isEmpty then 0 else 1) < 30)) = true := by rfl)
    (hline : (apos.endLine == cpos.line) = true := by rfl) (hs : starEach [a] X.env = (false, eval a X.env) :: starEach [] X.env := by rfl) (hw : swapsWith (.Call (.Attribute (.Name x xp) "append" apos) [a] [] cpos) none pos.line X.env = pure false := by rfl) :
    PMS X B W (.Expr (.Call (.Attribute (.Name x xp) "append" apos) [a] [] cpos) pos) (mApp i ma) := by
  refine impS (ps_expr (pe_bm PySem.F.plainAttrs_list PySem.F.slot_list_append PySem.F.type_list_append mt_append (pe_var (i := i) hi hx hd hcd) (pa_cons ha pa_nil hs) hbase hfew hline hs rfl) hw) fun D σ H ⟨g, s, K, R, hm, ok⟩ => ?_
  unfold mApp at hm
  split at hm
  case h_2 => exact hm.elim
  rename_i d0 h0
  obtain ⟨q, e1, vs, k1, k2, k3, k4, k5⟩ := R.own h0
  cases vs <;> first | exact k5.elim | skip
  refine ⟨.ref q, e1, .inl ⟨rfl, _, SqL.of k4⟩, ?_⟩
  refine ⟨g, s, _, K.ex, R, hm, fun g1 s1 H1 v d x1 R1 dv q1 => ?_, ok.x σ⟩
  cases e : s1.e[i]? with
  | none => rw [e] at q1; exact q1.elim
  | some sl =>
    rw [e] at q1
    cases sl with
    | un => exact q1.elim
    | dat _ => exact q1.elim
    | own oc =>
      cases oc with
      | o C fs => exact q1.elim
      | l ds =>
      obtain ⟨q', e2, ho, j1, j2, j3, j4, j5⟩ := R1.own e
      cases ho <;> first | exact j5.elim | skip
      rename_i ws
      have j5 : DVs X.K g1 ds ws := j5
      rw [e1] at e2
      have eq : q = q' := V.ref.inj (Option.some.inj (Option.some.inj e2))
      subst eq
      exact ⟨q, ws, v, rfl, rfl, j4, by rw [j5.length]; exact q1.1, ok.nx g1 _ σ _ x1 (R1.chg (es := .l (ds ++ [d])) (us := .lst (ws ++ [v])) e e1 (j5.app (.cons dv .nil))) q1.2⟩
end
end VL
namespace VL
open PySem L2
abbrev MG := D → VS → (VS → Prop) → Prop
abbrev MGs := List D → VS → (VS → Prop) → Prop
/-- outside of these slots nothing changes -/
def OffS (is : List Nat) (σ σ' : L2.St) : Prop := σ'.length = σ.length ∧ ∀ j : Nat, j ∉ is → σ'[j]? = σ[j]?
theorem OffS.refl (is : List Nat) (σ : L2.St) : OffS is σ σ := ⟨rfl, fun _ _ => rfl⟩
theorem OffS.trans {is js : List Nat} {a b c : L2.St} (h : OffS is a b) (k : OffS js b c) : OffS (is ++ js) a c :=
  ⟨k.1.trans h.1, fun j hj => by
    rw [List.mem_append, not_or] at hj
    exact (k.2 j hj.2).trans (h.2 j hj.1)⟩
def rdG (K : PySem.W.Frag) (B : Bs) (is : List Nat) (m : MG) : TG := fun v σ H Q => ∃ g s d q, Rel K B g s σ H ∧ DV K g d v ∧ m d s q ∧
  ∀ g' s' σ' H', Gx g g' → Rel K B g' s' σ' H' → OffS is σ σ' → q s' → Q σ' H'
def rdGs (K : PySem.W.Frag) (B : Bs) (is : List Nat) (m : MGs) : TGs := fun vs σ H Q => ∃ g s ds q, Rel K B g s σ H ∧ DVs K g ds vs ∧ m ds s q ∧
  ∀ g' s' σ' H', Gx g g' → Rel K B g' s' σ' H' → OffS is σ σ' → q s' → Q σ' H'
abbrev PMG (X : Cx) (B : Bs) (is : List Nat) (e : Expr) (m : MG) : Prop := PG X e (rdG X.K B is m)
abbrev PMGs (X : Cx) (B : Bs) (is : List Nat) (es : List Expr) (m : MGs) : Prop := PGs X es (rdGs X.K B is m)
theorem impG {X : Cx} {e : Expr} {t t' : TG} (h : PG X e t) (f : ∀ v σ H Q, t' v σ H Q → t v σ H Q) : PG X e t' := ⟨fun pins s σ H v u Q I r q => h.run pins s σ H v u Q I r (f v σ H Q q)⟩
theorem impGs {X : Cx} {e : List Expr} {t t' : TGs} (h : PGs X e t) (f : ∀ v σ H Q, t' v σ H Q → t v σ H Q) : PGs X e t' := ⟨fun pins s σ H v u Q I r q => h.run pins s σ H v u Q I r (f v σ H Q q)⟩
section
variable {X : Cx} {B : Bs} {W : WX} {a b c : Expr} {es : List Expr} {ma mb mc : M D} {mes : M (List D)} {ta tb : M Bool} {p pos : Pos} {st : Stmt} {sts : List Stmt} {m k : MS}
def gN (i : Nat) : MG := fun d s q => q ⟨s.e.set i (.dat d), s.n⟩
theorem pmg_name (i : Nat) {x : Str} (hN : X.N.Nodup) (hi : X.N[i]? = some x := by rfl) (hx : Loc X.env.scope x := by first | exact Or.inl rfl | exact Or.inr rfl) (hf : X.fn x = true ∨ X.env.scope.names.lookup x = some .local := by first | exact .inl rfl | exact .inr rfl | assumption) :
    PMG X B [i] (.Name x pos) (gN i) := by
  refine impG (pg_name hN hi hx hf) fun v σ H Q h => ?_
  obtain ⟨g, s, d, q, R, dv, hm, hk⟩ := h
  refine hk g _ _ H (Gx.refl _) (R.setD dv) ⟨List.length_set .., fun j hj => ?_⟩ hm
  rw [List.getElem?_set_ne (fun e => hj (by simp [e]))]
def gNil : MGs := fun ds s q => ds = [] ∧ q s
def gCons (m : MG) (r : MGs) : MGs := fun ds s q => match ds with
  | d :: ds' => m d s fun s' => r ds' s' q
  | [] => False
theorem pmg_nil : PMGs X B [] [] gNil := by
  refine impGs pgs_nil fun v σ H Q h => ?_
  obtain ⟨g, s, d, q, R, dv, hm, hk⟩ := h
  obtain ⟨rfl, hm⟩ := hm
  exact ⟨dv.of_nil, hk g s σ H (Gx.refl _) R (OffS.refl _ _) hm⟩
theorem pmg_cons {is js : List Nat} {m : MG} {r : MGs} (h1 : PMG X B is a m) (h2 : PMGs X B js es r)
    (hs : (assignEach (a :: es) X.env).map (·.2) = assign a X.env :: (assignEach es X.env).map (·.2) := by rfl) : PMGs X B (is ++ js) (a :: es) (gCons m r) := by
  refine impGs (pgs_cons h1 h2 hs) fun v σ H Q h => ?_
  obtain ⟨g, s, ds, q, R, dv, hm, hk⟩ := h
  cases ds with
  | nil => exact (show False from hm).elim
  | cons d ds =>
    obtain ⟨v, rr, rfl, h1, h2⟩ := dv.of_cons
    refine ⟨v, rr, rfl, g, s, d, _, R, h1, hm, fun g1 s1 σ1 H1 x1 R1 o1 q1 => ?_⟩
    exact ⟨g1, s1, ds, q, R1, h2.mono x1, q1, fun g2 s2 σ2 H2 x2 R2 o2 q2 => hk g2 s2 σ2 H2 (x1.trans x2) R2 (o1.trans o2) q2⟩
def gTp (n : Nat) (r : MGs) : MG := fun d s q => match d with
  | .tup ds => ds.length = n ∧ r ds s q
  | _ => False
theorem pmg_tup {is : List Nat} {n kk : Nat} {r : MGs} (hc : X.calm = true) (h : PMGs X B is es r) (hn : (assignEach es X.env).length = n := by rfl) (hst : (assignEach es X.env).findIdx? (·.1) = none := by rfl) : PMG X B is (.Tuple es kk pos) (gTp n r) := by
  refine impG (pg_tup hc h hn hst) fun v σ H Q h => ?_
  obtain ⟨g, s, d, q, R, dv, hm, hk⟩ := h
  cases d <;> first | exact (show False from hm).elim | skip
  rename_i ds
  obtain ⟨a, vs, rfl, e1, s1⟩ := dv.of_t
  exact ⟨a, vs, rfl, sameT R.gh.sub e1, by rw [s1.length]; exact hm.1, g, s, ds, q, R, s1, hm.2, hk⟩
def mAsg (m : M D) (g : MG) : MS := fun s K => m s (fun d s' => g d s' K.nx) K.ex
theorem pms_asg {is : List Nat} {mg : MG} (ha : PM X B W a ma) (hg : PMG X B is b mg) (hs : swapsWithSole [b] a pos.line X.env = pure false := by rfl) (hw : swappedStores [b] a X.env = pure none := by rfl)
    (h1 : (assignEach [b] X.env).map (·.2) = [assign b X.env] := by rfl) : PMS X B W (.Assign [b] a pos) (mAsg ma mg) := by
  refine impS (ps_asg ha hg hs hw h1) fun D σ H ⟨g, s, K, R, hm, ok⟩ => ?_
  refine ⟨g, s, _, K.ex, R, hm, fun g1 s1 H1 v d x1 R1 dv q1 => ?_, ok.x σ⟩
  exact ⟨g1, s1, d, K.nx, R1, dv, q1, fun g2 s2 σ2 H2 x2 R2 _ q2 => ok.nx g2 s2 σ2 H2 (x1.trans x2) R2 q2⟩
/-- a, b = x, y -/
def mPar2 (i j : Nat) (m : M (List D)) : MS := fun s K => m s (fun ds s' => match ds with
  | [d, e] => K.nx ⟨(s'.e.set i (.dat d)).set j (.dat e), s'.n⟩
  | _ => False) K.ex
theorem pms_par2 (i j : Nat) {x y : Str} {px py pt pt2 : Pos} {kt k2 : Nat} (hc : X.calm = true) (hN : X.N.Nodup) (ha : PMA X B W [a, b] mes) (hi : X.N[i]? = some x := by rfl) (hj : X.N[j]? = some y := by rfl) (hij : i ≠ j := by decide)
    (hx : X.env.scope.names.lookup x = some .local := by rfl) (hy : X.env.scope.names.lookup y = some .local := by rfl) (hw : swappedStores [.Tuple [.Name x px, .Name y py] kt pt] (.Tuple [a, b] k2 pt2) X.env = pure (some [x, y]) := by rfl)
    (hs : swapsWithSole [.Tuple [.Name x px, .Name y py] kt pt] (.Tuple [a, b] k2 pt2) pos.line X.env = pure false := by rfl) : PMS X B W (.Assign [.Tuple [.Name x px, .Name y py] kt pt] (.Tuple [a, b] k2 pt2) pos) (mPar2 i j mes) := by
  refine impS (ps_par hc hN hi hj hij hx hy ha hw hs) fun D σ H ⟨g, s, K, R, hm, ok⟩ => ?_
  refine ⟨g, s, _, K.ex, R, hm, fun g1 s1 H1 vs ds x1 R1 dv q1 => ?_, ok.x σ⟩
  split at q1
  · obtain ⟨v, u, rfl, h1, h2⟩ := dv.two
    exact ⟨v, u, rfl, ok.nx g1 _ _ H1 x1 ((R1.setD h1).setD h2) q1⟩
  · exact q1.elim
structure ItOk (K : PySem.W.Frag) (J : It) (g : Gh) (items : List D) : Prop where
  go : ∀ g' H' (i : Nat) d, Gx g g' → Same g'.G H' → items[i]? = some d → J.go i H' ∧ ∀ x H'', J.yld i H' x H'' → (H'' = H' ∧ DV K g' d x) ∨ ∃ q xs ds, H' q = none ∧ H'' = upd H' q (.tup xs) ∧ x = .ref q ∧ d = .tup ds ∧ DVs K g' ds xs
  stop : ∀ g' H', Gx g g' → Same g'.G H' → J.stop items.length H'
def rdI (K : PySem.W.Frag) (B : Bs) (W : WX) (m : M (List D)) : TI := fun σ H R => ∃ g s Q E, Rel K B g s σ H ∧ m s Q E ∧
  (∀ g' s' H' J items, Gx g g' → Rel K B g' s' σ H' → ItOk K J g' items → Q items s' → R J H') ∧ XOk K B W g σ E
abbrev PMI (X : Cx) (B : Bs) (W : WX) (tg e : Expr) (m : M (List D)) : Prop := PI X tg e (rdI X.K B W m)
theorem impI {X : Cx} {tg e : Expr} {t t' : TI} (h : PI X tg e t) (f : ∀ σ H Q, t' σ H Q → t σ H Q) : PI X tg e t' := ⟨fun pins s σ H R I q => h.run pins s σ H R I (f σ H R q)⟩
variable {tg iter : Expr} {mi : M (List D)}
def itL : D → (List D → Prop) → Prop
  | .lst ds, Q => Q ds
  | .scr ns, Q => Q (ns.map .int)
  | _, _ => False
def mIt (f : D → (List D → Prop) → Prop) (m : M D) : M (List D) := fun s Q E => m s (fun d s' => f d fun ds => Q ds s') E
theorem it_list {K : PySem.W.Frag} {g : Gh} {a : Addr} {ds : List D} {vs : List V} (h : ∀ g' H', Gx g g' → Same g'.G H' → SqL K H' a vs) (hs : DVs K g ds vs) : ItOk K (Itl K a) g ds := by
  refine ⟨fun g' H' i d x hg hd => ?_, fun g' H' x hg => ⟨vs, h g' H' x hg, by rw [hs.length]; exact Nat.le_refl _⟩⟩
  obtain ⟨v, hv, dv⟩ := hs.get hd
  refine ⟨⟨vs, v, h g' H' x hg, hv⟩, fun y H'' hy => .inl ⟨hy.1, ?_⟩⟩
  have e := hy.2 vs (h g' H' x hg)
  rw [hv] at e
  cases e
  exact dv.mono x
theorem it_tup {K : PySem.W.Frag} {g : Gh} {a : Addr} {ds : List D} {vs : List V} (h : ∀ g' H', Gx g g' → Same g'.G H' → SqT K H' a vs) (hs : DVs K g ds vs) : ItOk K (Itt K a) g ds := by
  refine ⟨fun g' H' i d x hg hd => ?_, fun g' H' x hg => ⟨vs, h g' H' x hg, by rw [hs.length]; exact Nat.le_refl _⟩⟩
  obtain ⟨v, hv, dv⟩ := hs.get hd
  refine ⟨⟨vs, v, h g' H' x hg, hv⟩, fun y H'' hy => .inl ⟨hy.1, ?_⟩⟩
  have e := hy.2 vs (h g' H' x hg)
  rw [hv] at e
  cases e
  exact dv.mono x
/-- over a list -/
theorem pmi_list (ha : PM X B W a ma) : PMI X B W tg a (mIt itL ma) := by
  refine impI (pi_list ha) fun σ H Q h => ?_
  obtain ⟨g, s, Qd, E, R, hm, hk, hx⟩ := h
  refine ⟨g, s, _, E, R, hm, fun g1 s1 H1 x d1 x1 R1 dx q1 => ?_, hx⟩
  cases d1 <;> first | exact (show False from q1).elim | skip
  · obtain ⟨p, vs, rfl, e1, s1'⟩ := dx.of_l
    exact ⟨p, rfl, ⟨vs, SqL.of (R1.gh.sub _ _ e1)⟩, hk g1 s1 H1 _ _ x1 R1 (it_list (fun g' H' y hg => SqL.of (hg _ _ (y.1 _ _ e1))) s1') q1⟩
  · obtain ⟨p, rfl, e1⟩ := dx.of_scr
    exact ⟨p, rfl, ⟨_, Same.seq R1.gh.sub e1⟩, hk g1 s1 H1 _ _ x1 R1 (it_list (fun g' H' y hg => Same.seq (y.1.trans hg) e1) DVs.ints) q1⟩
def itT : D → (List D → Prop) → Prop
  | .tup ds, Q => Q ds
  | _, _ => False
theorem pmi_tup (ha : PM X B W a ma) : PMI X B W tg a (mIt itT ma) := by
  refine impI (pi_tup ha) fun σ H Q h => ?_
  obtain ⟨g, s, Qd, E, R, hm, hk, hx⟩ := h
  refine ⟨g, s, _, E, R, hm, fun g1 s1 H1 x d1 x1 R1 dx q1 => ?_, hx⟩
  cases d1 <;> first | exact (show False from q1).elim | skip
  obtain ⟨p, vs, rfl, e1, s1'⟩ := dx.of_t
  exact ⟨p, rfl, ⟨vs, sameT R1.gh.sub e1⟩, hk g1 s1 H1 _ _ x1 R1 (it_tup (fun g' H' y hg => sameT (y.1.trans hg) e1) s1') q1⟩
def rng (lo : Int) (n : Nat) : List D := (List.range n).map fun i => .int (lo + (i : Nat))
theorem it_rng {K : PySem.W.Frag} {g : Gh} {lo : Int} {n : Nat} : ItOk K (Itr lo n) g (rng lo n) := by
  refine ⟨fun g' H' i d x hg hd => ?_, fun g' H' x hg => by show n ≤ (rng lo n).length; simp [rng]⟩
  unfold rng at hd
  rw [List.getElem?_map] at hd
  cases e : (List.range n)[i]? with
  | none => rw [e] at hd; cases hd
  | some j =>
    obtain ⟨h1, h2⟩ := List.getElem?_eq_some_iff.mp e
    rw [List.length_range] at h1
    rw [List.getElem_range] at h2
    rw [e] at hd
    cases hd
    subst h2
    exact ⟨h1, fun y H'' hy => .inl ⟨hy.1, by rw [hy.2]; exact DV.i⟩⟩
def it1 : List D → (List D → Prop) → Prop
  | [.int j], Q => j < 2 ^ 62 ∧ -(2 ^ 62) ≤ j ∧ Q (rng 0 j.toNat)
  | _, _ => False
def it2 : List D → (List D → Prop) → Prop
  | [.int i, .int j], Q => (-(2 ^ 62) ≤ i ∧ i < 2 ^ 62 ∧ -(2 ^ 62) ≤ j ∧ j < 2 ^ 62) ∧ Q (rng i (j - i).toNat)
  | _, _ => False
def mItA (f : List D → (List D → Prop) → Prop) (m : M (List D)) : M (List D) := fun s Q E => m s (fun d s' => f d fun ds => Q ds s') E
theorem pmi_rng1 (hm : X.mg "range" = none) (ha : PM X B W a ma) (hg : Gl X "range" := by rfl) (hs : starEach [a] X.env = [(false, eval a X.env)] := by rfl) : PMI X B W tg (.Call (.Name "range" p) [a] [] pos) (mItA it1 (mCons ma mNil)) := by
  refine impI (pi_range1 hg hm (pma_cons ha pma_nil hs) hs) fun σ H Q h => ?_
  obtain ⟨g, s, Qd, E, R, hm, hk, hx⟩ := h
  refine ⟨g, s, _, E, R, hm, fun g1 s1 H1 vs ds x1 R1 dv q1 => ?_, hx⟩
  unfold it1 at q1
  split at q1
  · obtain ⟨v, rfl, h1⟩ := dv.one
    rw [h1.of_i]
    exact ⟨_, rfl, q1.2.1, q1.1, hk g1 s1 H1 _ _ x1 R1 it_rng q1.2.2⟩
  · exact q1.elim
theorem pmi_rng2 (hm : X.mg "range" = none) (ha : PM X B W a ma) (hb : PM X B W b mb) (hg : Gl X "range" := by rfl) (hs : starEach [a, b] X.env = [(false, eval a X.env), (false, eval b X.env)] := by rfl) (hs2 : starEach [b] X.env = [(false, eval b X.env)] := by rfl)
    (hs3 : starEach [a, b] X.env = (false, eval a X.env) :: starEach [b] X.env := by rfl) : PMI X B W tg (.Call (.Name "range" p) [a, b] [] pos) (mItA it2 (mCons ma (mCons mb mNil))) := by
  refine impI (pi_range2 hg hm (pma_cons ha (pma_cons hb pma_nil hs2) hs3) hs hs2) fun σ H Q h => ?_
  obtain ⟨g, s, Qd, E, R, hm, hk, hx⟩ := h
  refine ⟨g, s, _, E, R, hm, fun g1 s1 H1 vs ds x1 R1 dv q1 => ?_, hx⟩
  unfold it2 at q1
  split at q1
  · obtain ⟨v, u, rfl, h1, h2⟩ := dv.two
    rw [h1.of_i, h2.of_i]
    exact ⟨_, _, rfl, q1.1, hk g1 s1 H1 _ _ x1 R1 it_rng q1.2⟩
  · exact q1.elim
/-- the signs of a text -/
def signs (x : Str) : List D := x.cps.toList.map fun c => .str ⟨#[c]⟩
def itS : D → (List D → Prop) → Prop
  | .str x, Q => Q (signs x)
  | _, _ => False
theorem pmi_str (ha : PM X B W a ma) : PMI X B W tg a (mIt itS ma) := by
  refine impI (pi_str ha) fun σ H Q h => ?_
  obtain ⟨g, s, Qd, E, R, hm, hk, hx⟩ := h
  refine ⟨g, s, _, E, R, hm, fun g1 s1 H1 x d1 x1 R1 dx q1 => ?_, hx⟩
  cases d1 <;> first | exact (show False from q1).elim | skip
  rename_i z
  rw [dx.of_s]
  refine ⟨z, rfl, hk g1 s1 H1 _ _ x1 R1 ⟨fun g' H' i d x hg hd => ?_, fun g' H' x hg => by show z.cps.size ≤ (signs z).length; simp [signs]⟩ q1⟩
  unfold signs at hd
  rw [List.getElem?_map] at hd
  cases e : z.cps.toList[i]? with
  | none => rw [e] at hd; cases hd
  | some j =>
    obtain ⟨h1, h2⟩ := List.getElem?_eq_some_iff.mp e
    rw [e] at hd
    cases hd
    refine ⟨show i < z.cps.size by simpa using h1, fun y H'' hy => .inl ⟨hy.1, ?_⟩⟩
    obtain ⟨cc, e1, rfl⟩ := hy.2
    have e2 : z.cps[i]? = some j := by simpa using e
    rw [e2] at e1
    cases e1
    exact DV.s
/-- pairs -/
theorem pair_ok {K : PySem.W.Frag} {g : Gh} {J : It} {n : Nat} {G : Hp → Prop} {fx fy : Nat → Option V} {ps : List (D × D)} (w : Walk J n G (YPair fx fy)) (hG : ∀ g' H', Gx g g' → Same g'.G H' → G H') (hn : ps.length = n)
    (hp : ∀ (i : Nat) d e, ps[i]? = some (d, e) → (∀ x, fx i = some x → DV K g d x) ∧ ∀ y, fy i = some y → DV K g e y) : ItOk K J g (ps.map fun q => .tup [q.1, q.2]) := by
  refine ⟨fun g' H' i d x hg hd => ?_, fun g' H' x hg => by rw [List.length_map, hn]; exact w.stops H' (hG g' H' x hg)⟩
  rw [List.getElem?_map] at hd
  cases e : ps[i]? with
  | none => rw [e] at hd; cases hd
  | some q =>
    obtain ⟨h1, _⟩ := List.getElem?_eq_some_iff.mp e
    rw [e] at hd
    cases hd
    refine ⟨w.goes i H' (by rw [← hn]; exact h1) (hG g' H' x hg), fun y H'' hy => .inr ?_⟩
    obtain ⟨T, x1, y1, rfl, hT, rfl, ex, ey⟩ := w.yields i H' y H'' (by rw [← hn]; exact h1) (hG g' H' x hg) hy
    obtain ⟨k1, k2⟩ := hp i q.1 q.2 e
    exact ⟨T, [x1, y1], [q.1, q.2], hT, rfl, rfl, rfl, .cons ((k1 x1 ex).mono x) (.cons ((k2 y1 ey).mono x) .nil)⟩
def pairs (xs ys : List D) : List D := (xs.zip ys).map fun q => .tup [q.1, q.2]
theorem zip_at {K : PySem.W.Frag} {g : Gh} {ds es : List D} {vs us : List V} (h : DVs K g ds vs) (k : DVs K g es us) (i : Nat) (d e : D) (hi : (ds.zip es)[i]? = some (d, e)) : (∀ x, vs[i]? = some x → DV K g d x) ∧ ∀ y, us[i]? = some y → DV K g e y := by
  rw [List.getElem?_zip_eq_some] at hi
  refine ⟨fun x hx => ?_, fun y hy => ?_⟩
  · obtain ⟨v, e1, dv⟩ := h.get hi.1
    rw [hx] at e1
    cases e1
    exact dv
  · obtain ⟨v, e1, dv⟩ := k.get hi.2
    rw [hy] at e1
    cases e1
    exact dv
def numbered (xs : List D) : List D := (xs.zipIdx).map fun q => .tup [.int (q.2 : Nat), q.1]
end
end VL
namespace VL
open PySem L2
section
variable {X : Cx} {B : Bs} {W : WX} {a b c tg iter elt : Expr} {es ifs : List Expr} {ma mb mc me : M D} {mes mi : M (List D)} {ta tb : M Bool} {p pos : Pos} {st : Stmt} {sts : List Stmt} {m k : MS} {mg : MG} {is : List Nat}
def forR (tgt : MG) (body : MS) : List D → VS → VE → Prop
  | [], s, k => k.nx s
  | d :: ds, s, k => tgt d s fun s1 => body s1 { k with nx := fun s2 => forR tgt body ds s2 k, ct := fun s2 => forR tgt body ds s2 k, bk := k.nx }
def mFor (mi : M (List D)) (tgt : MG) (body : MS) : MS := fun s k => mi s (fun items s' => forR tgt body items s' k) k.ex
theorem pms_for (hp : PassesOwn (model X.prog X.w) X.A X.env X.xe) (hc : X.calm = true) (hi : PMI X B W tg iter mi) (hg : PMG X B is tg mg) (hb : PMSs X B W sts m) (hs : ∀ x, foldedSetIterable iter X.env x = pure x := by intro _; rfl) :
    PMS X B W (.For tg iter sts [] pos) (mFor mi mg m) := by
  refine impS (ps_for hp hc hi hg hb hs) fun D σ H ⟨g, s, k, R, hm, ok⟩ => ?_
  refine ⟨g, s, _, k.ex, R, hm, fun g1 s1 H1 J items x1 R1 it q1 => ?_, ok.x σ⟩
  refine ⟨fun i mm σ' H' => mm = items.length - i ∧ i ≤ items.length ∧ ∃ g' s', Gx g1 g' ∧ Rel X.K B g' s' σ' H' ∧ forR mg m (items.drop i) s' k, ⟨items.length, by simp, Nat.zero_le _, g1, s1, Gx.refl _, R1, by simpa using q1⟩, ?_⟩
  rintro i mm σ' H' ⟨rfl, hi, g2, s2, x2, R2, q2⟩
  by_cases hlt : i < items.length
  · right
    have hd : items.drop i = items[i] :: items.drop (i + 1) := List.drop_eq_getElem_cons hlt
    rw [hd] at q2
    obtain ⟨go, yl⟩ := it.go g2 H' i items[i] x2 R2.gh.sub (by simp [hlt])
    refine ⟨go, fun σ'' H'' => i + 1 ≤ items.length ∧ ∃ g' s', Gx g1 g' ∧ Rel X.K B g' s' σ'' H'' ∧ forR mg m (items.drop (i + 1)) s' k, fun σ'' H'' ⟨z1, z2⟩ => ⟨items.length - (i + 1), by omega, rfl, z1, z2⟩, fun x H'' hy => ?_⟩
    have fin : ∀ g3, Gx g2 g3 → Rel X.K B g3 s2 σ' H'' → DV X.K g3 items[i] x → rdG X.K B is mg x σ' H'' fun σ2 H2 => rdS X.K B W m ⟨(fun σ'' H'' => i + 1 ≤ items.length ∧ ∃ g' s', Gx g1 g' ∧ Rel X.K B g' s' σ'' H'' ∧ forR mg m (items.drop (i + 1)) s' k), D.rt, D.nx, (fun σ'' H'' => i + 1 ≤ items.length ∧ ∃ g' s', Gx g1 g' ∧ Rel X.K B g' s' σ'' H'' ∧ forR mg m (items.drop (i + 1)) s' k)⟩ σ2 H2 := fun g3 x3 R3 dv => by
      refine ⟨g3, s2, items[i], _, R3, dv, q2, fun g4 s4 σ4 H4 x4 R4 _ q4 => ?_⟩
      have y4 : Gx g1 g4 := x2.trans (x3.trans x4)
      refine ⟨g4, s4, _, R4, q4, ⟨fun g5 s5 σ5 H5 x5 R5 q5 => ⟨hlt, g5, s5, y4.trans x5, R5, q5⟩, fun g5 n5 H5 v d x5 => ok.rt g5 n5 H5 v d (x1.trans (y4.trans x5)), fun g5 s5 σ5 H5 x5 => ok.nx g5 s5 σ5 H5 (x1.trans (y4.trans x5)),
        fun g5 s5 σ5 H5 x5 R5 q5 => ⟨hlt, g5, s5, y4.trans x5, R5, q5⟩, fun g5 s5 σ5 H5 e cc dd x5 => ok.ex g5 s5 σ5 H5 e cc dd (x1.trans (y4.trans x5))⟩⟩
    rcases yl x H'' hy with ⟨rfl, dv⟩ | ⟨q, xs, ds, hq, rfl, rfl, ed, dv⟩
    · exact fin g2 (Gx.refl _) R2 dv
    · have gx := Gx.put (g := g2) (p := q) (o := .tup xs) (R2.gn hq)
      refine fin _ gx (R2.put hq) ?_
      rw [ed]
      exact DV.t (SqT.of (show upd g2.G q _ q = _ from upd_same)) (dv.mono gx)
  · left
    have e : i = items.length := by omega
    subst e
    rw [List.drop_length] at q2
    exact ⟨it.stop g2 H' x2 R2.gh.sub, ok.nx g2 s2 σ' H' (x1.trans x2) R2 q2⟩
/-- nothing is raised out of it -/
abbrev W0 : WX := fun _ _ _ _ => False
def hideE (vs : List Nat) (e : List Slot) : List Slot := e.zipIdx.map fun q => if q.2 ∈ vs then .un else match q.1 with
  | .dat d => .dat d
  | _ => .un
def compR (e : List Slot) (tgt : MG) (tt : M Bool) (me : M D) : List D → Ms → List D → (List D → Ms → Prop) → Prop
  | [], n, acc, Q => Q acc n
  | d :: ds, n, acc, Q => tgt d ⟨e, n⟩ fun s1 => tt s1 (fun b s2 => if b = true then me s2 (fun y s3 => acc.length < sizeLine ∧ compR e tgt tt me ds s3.n (acc ++ [y]) Q) (fun _ _ => False) else compR e tgt tt me ds s2.n acc Q) fun _ _ => False
def mComp (vs : List Nat) (mi : M (List D)) (tgt : MG) (tt : M Bool) (me : M D) : M D := fun s Q E => mi s (fun items s' => compR (hideE vs s'.e) tgt tt me items s'.n [] fun acc n => Q (.lst acc) ⟨s'.e, n⟩) E
theorem hide_at {vs : List Nat} {e : List Slot} {j : Nat} {sl : Slot} (h : (hideE vs e)[j]? = some sl) : (sl = .un) ∨ ∃ d, sl = .dat d ∧ j ∉ vs ∧ e[j]? = some (.dat d) := by
  unfold hideE at h
  rw [List.getElem?_map, List.getElem?_zipIdx] at h
  cases q : e[j]? with
  | none => rw [q] at h; cases h
  | some s =>
    rw [q] at h
    simp only [Option.map_some, Nat.zero_add, Option.some.injEq] at h
    split at h
    · exact .inl h.symm
    · rename_i hv
      cases s with
      | un => exact .inl h.symm
      | dat d => exact .inr ⟨d, h.symm, hv, rfl⟩
      | own ds => exact .inl h.symm
theorem wipe_at {σ : L2.St} {j : Nat} : ∀ {vs : List Nat}, j ∉ vs → (wipe σ vs)[j]? = σ[j]?
  | [], _ => rfl
  | v :: vs, h => by
    rw [List.mem_cons, not_or] at h
    show ((wipe σ vs).set v none)[j]? = _
    rw [List.getElem?_set_ne (fun e => h.1 e.symm)]
    exact wipe_at h.2
theorem wipe_eq {σ σ2 : L2.St} {vs : List Nat} (hl : σ2.length = σ.length) (h : ∀ j : Nat, j ∉ vs → σ2[j]? = σ[j]?) : wipe σ2 vs = wipe σ vs := by
  apply List.ext_getElem?
  intro j
  by_cases hj : j ∈ vs
  · have f : ∀ (τ : L2.St) (us : List Nat), j ∈ us → (wipe τ us)[j]? = if j < τ.length then some none else none := fun τ us => by
      induction us with
      | nil => intro z; cases z
      | cons v us ih =>
        intro z
        show ((wipe τ us).set v none)[j]? = _
        by_cases e : v = j
        · subst e
          rw [List.getElem?_set]
          simp [wipe_length]
        · rw [List.getElem?_set_ne e]
          exact ih ((List.mem_cons.mp z).resolve_left fun e2 => e e2.symm)
    rw [f σ2 vs hj, f σ vs hj, hl]
  · rw [wipe_at hj, wipe_at hj]
    exact h j hj
/-- the same state, seen from here on: what is owned is out of sight -/
theorem Rel.hide {K : PySem.W.Frag} {g : Gh} {s : VS} {σ : L2.St} {H : Hp} {vs : List Nat} (R : Rel K B g s σ H) : Rel K ⟨g, H, none, none⟩ g ⟨hideE vs s.e, s.n⟩ (wipe σ vs) H := by
  refine ⟨R.gh, Ext.refl _ _, ?_, fun j sl o h1 h2 => ?_, fun j k xs ys h1 => ?_, fun _ _ z => (nomatch z), fun _ z => (nomatch z), R.tb⟩
  · show (hideE vs s.e).length = _
    unfold hideE
    rw [List.length_map, List.length_zipIdx, wipe_length]
    exact R.len
  · rcases hide_at h1 with rfl | ⟨d, rfl, hj, e⟩
    · trivial
    · rw [wipe_at hj] at h2
      exact R.sl j _ o e h2
  · rcases hide_at h1 with e | ⟨d, e, _⟩ <;> cases e
theorem Rel.unhide {K : PySem.W.Frag} {g g' : Gh} {s s' : VS} {σ σ' : L2.St} {H H' : Hp} (R : Rel K B g s σ H) (R' : Rel K ⟨g, H, none, none⟩ g' s' σ' H') : Rel K B g' ⟨s.e, s'.n⟩ σ H' := R.step R'.ext R'.gh
/-- the same, the new object told -/
def rdF (K : PySem.W.Frag) (B : Bs) (W : WX) (m : M D) : TE := fun σ H Qv => ∃ g s Q E, Rel K B g s σ H ∧ m s Q E ∧
  (∀ g' s' H' v d, Gx g g' → Rel K B g' s' σ H' → DV K g' d v → Q d s' → (∀ a, v = .ref a → B.H a = none) → Qv v H') ∧ XOk K B W g σ E
theorem rdF_of {K : PySem.W.Frag} {m : M D} {σ : L2.St} {H : Hp} {Q : VK} (h : rdE K B W m σ H Q) : rdF K B W m σ H Q := by
  obtain ⟨g, s, Qd, E, R, hm, hk, hx⟩ := h
  exact ⟨g, s, Qd, E, R, hm, fun g' s' H' v d x R' dv q _ => hk g' s' H' v d x R' dv q, hx⟩
/-- the same, the new list not data yet -/
def rdN (K : PySem.W.Frag) (B : Bs) (W : WX) (m : M D) : TE := fun σ H Qv => ∃ g s Q E, Rel K B g s σ H ∧ m s Q E ∧
  (∀ g' s' H' a us ds, Gx g g' → Rel K B g' s' σ H' → H' a = some (.lst us) → DVs K g' ds us → Q (.lst ds) s' → g'.G a = none → ¬ zone g' a → B.H a = none → (∀ (j : Nat) c, s'.e[j]? = some (.own c) → σ[j]? ≠ some (some (.ref a))) → Qv (.ref a) H') ∧ XOk K B W g σ E
theorem rdN_of {K : PySem.W.Frag} {m : M D} {σ : L2.St} {H : Hp} {Q : VK} (h : rdF K B W m σ H Q) : rdN K B W m σ H Q := by
  obtain ⟨g, s, Qd, E, R, hm, hk, hx⟩ := h
  refine ⟨g, s, Qd, E, R, hm, fun g2 s2 H' Da us ds x2 R2 hD2 dacc q2 gD2 zD2 bD nown => ?_, hx⟩
  have gx := Gx.put (g := g2) (p := Da) (o := .lst us) gD2
  have R4 : Rel K B (g2.put Da (.lst us)) s2 σ H' := by
    refine ⟨⟨fun b u e => ?_, fun b u e => ?_, R2.gh.dr, fun b z => ?_, R2.gh.mem.keep gx rfl rfl R2.gh.mem.dz fun _ _ _ e _ => e⟩, ⟨R2.ext.sG.trans gx.1, R2.ext.keep, R2.ext.tb, fun b o e n nz => by
        show upd g2.G Da _ b = none
        rw [upd_ne (ne_of_none e bD)]
        exact R2.ext.out b o e n nz, R2.ext.th, R2.ext.am, R2.ext.zn, R2.ext.lc⟩, R2.len, fun j sl o h1 h2 => ?_, R2.ap, R2.me, fun p e => ?_, R2.tb⟩
    · by_cases q : b = Da
      · rw [q] at e ⊢
        have e' : upd g2.G Da (.lst us) Da = some u := e
        rw [upd_same] at e'
        rw [hD2]
        exact e'
      · have e' : upd g2.G Da (.lst us) b = some u := e
        rw [upd_ne q] at e'
        exact R2.gh.sub _ _ e'
    · by_cases q : b = Da
      · rw [q] at e
        have e' : upd g2.G Da (.lst us) Da = some u := e
        rw [upd_same] at e'
        cases e'
        exact fun _ z => nomatch z
      · have e' : upd g2.G Da (.lst us) b = some u := e
        rw [upd_ne q] at e'
        exact R2.gh.nt _ _ e'
    · have q : b ≠ Da := fun q => zD2 (q ▸ z)
      show upd g2.G Da _ b = none
      rw [upd_ne q]
      exact R2.gh.off b z
    · have z := R2.sl j sl o h1 h2
      cases sl with
      | un => trivial
      | dat d =>
        obtain ⟨v, e, dv⟩ := z
        exact ⟨v, e, dv.mono gx⟩
      | own c =>
        obtain ⟨b, e2, ws, j1, j2, j3, j4, j5⟩ := z
        have nb : b ≠ Da := fun q => nown j c h1 (by rw [h2, e2, q])
        refine ⟨b, e2, ws, j1, ?_, j3, j4, j5.mono gx⟩
        show upd g2.G Da _ b = none
        rw [upd_ne nb]
        exact j2
    · obtain ⟨ws, k1, k2, k3, k4⟩ := R2.px p e
      refine ⟨ws, k1, k2.mono gx, ?_, k4⟩
      show upd g2.G Da _ p.1 = none
      rw [upd_ne fun q => by rw [q, hD2] at k1; cases k1]
      exact k3
  exact hk _ _ H' _ _ (x2.trans gx) R4 (DV.l (show upd g2.G Da _ Da = _ from upd_same) (dacc.mono gx)) q2 fun a ea => by
    cases ea
    exact bD
theorem rd_comp {K : PySem.W.Frag} {vs : List Nat} (hv : ∀ i ∈ is, i ∈ vs) (wi : TI) (g_ : TG) (tt_ : TT) (te_ : TE) (hwi : ∀ σ H R, rdI K B W mi σ H R → wi σ H R) (hg : ∀ B' v σ H Q, rdG K B' is mg v σ H Q → g_ v σ H Q) (ht : ∀ B' σ H Q, rdT K B' W0 ta σ H Q → tt_ σ H Q)
    (he : ∀ B' σ H Q, rdE K B' W0 me σ H Q → te_ σ H Q) (σ : L2.St) (H : Hp) (Q : VK) (h : rdN K B W (mComp vs mi mg ta me) σ H Q) : tLc wi g_ tt_ te_ vs σ H Q := by
  obtain ⟨g, s, Qd, E, R, hm, hk, hx⟩ := h
  refine hwi σ H _ ⟨g, s, _, E, R, hm, fun g1 s1 H1 J items x1 R1 it q1 => ?_, hx⟩
  intro Da hD
  have gD : g1.G Da = none := R1.gn hD
  have zD : ¬ zone g1 Da := R1.gh.nzone hD
  have bD : ∀ g' H', Ext g1 H1 g' H' → True := fun _ _ _ => trivial
  -- the invariant: a state that has come from here, the list at Da on top of it
  refine ⟨fun i mm H' => mm = items.length - i ∧ i ≤ items.length ∧ ∃ g' n' acc us, Ext g1 H1 g' H' ∧ GhOk g' H' n' ∧ g'.G Da = none ∧ ¬ zone g' Da ∧ H' Da = some (.lst us) ∧ DVs K g' acc us ∧
      compR (hideE vs s1.e) mg ta me (items.drop i) n' acc (fun acc n => Qd (.lst acc) ⟨s1.e, n⟩), ⟨items.length, by simp, Nat.zero_le _, g1, s1.n, [], [], Ext.new hD, R1.gh.new hD, gD, zD, upd_same, DVs.nil, by simpa using q1⟩, ?_⟩
  rintro i mm H' ⟨rfl, hi, g2, n2, acc, us, x2, ok2, gD2, zD2, hD2, dacc, q2⟩
  have R2 : Rel K B g2 ⟨s1.e, n2⟩ σ H' := R1.step x2 ok2
  by_cases hlt : i < items.length
  · right
    have hd : items.drop i = items[i] :: items.drop (i + 1) := List.drop_eq_getElem_cons hlt
    rw [hd] at q2
    obtain ⟨go, yl⟩ := it.go g2 H' i items[i] x2.gx ok2.sub (by simp [hlt])
    refine ⟨go, fun H'' => i + 1 ≤ items.length ∧ ∃ g' n' acc us, Ext g1 H1 g' H'' ∧ GhOk g' H'' n' ∧ g'.G Da = none ∧ ¬ zone g' Da ∧ H'' Da = some (.lst us) ∧ DVs K g' acc us ∧
      compR (hideE vs s1.e) mg ta me (items.drop (i + 1)) n' acc (fun acc n => Qd (.lst acc) ⟨s1.e, n⟩), fun H'' ⟨z1, z2⟩ => ⟨items.length - (i + 1), by omega, rfl, z1, z2⟩, fun x H'' hy => ?_⟩
    -- what stands at the turn: base at the turn's own beginning
    have fin : ∀ g3, Ext g2 H' g3 H'' → GhOk g3 H'' n2 → DV K g3 items[i] x → H'' Da = some (.lst us) → g_ x (wipe σ vs) H'' fun σ2 H2 => wipe σ2 vs = wipe σ vs ∧ tt_ σ2 H2 fun b H3 => if b = true then te_ σ2 H3 fun y H4 => ∃ acc, H4 Da = some (.lst acc) ∧ acc.length < sizeLine ∧
        (i + 1 ≤ items.length ∧ ∃ g' n' acc' us, Ext g1 H1 g' (upd H4 Da (.lst (acc ++ [y]))) ∧ GhOk g' (upd H4 Da (.lst (acc ++ [y]))) n' ∧ g'.G Da = none ∧ ¬ zone g' Da ∧ (upd H4 Da (.lst (acc ++ [y]))) Da = some (.lst us) ∧ DVs K g' acc' us ∧
          compR (hideE vs s1.e) mg ta me (items.drop (i + 1)) n' acc' (fun acc n => Qd (.lst acc) ⟨s1.e, n⟩))
        else (i + 1 ≤ items.length ∧ ∃ g' n' acc us, Ext g1 H1 g' H3 ∧ GhOk g' H3 n' ∧ g'.G Da = none ∧ ¬ zone g' Da ∧ H3 Da = some (.lst us) ∧ DVs K g' acc us ∧
          compR (hideE vs s1.e) mg ta me (items.drop (i + 1)) n' acc (fun acc n => Qd (.lst acc) ⟨s1.e, n⟩)) := fun g3 x3 ok3 dv hD3 => by
      have R3 : Rel K B g3 ⟨s1.e, n2⟩ σ H'' := R2.step x3 ok3
      have gD3 : g3.G Da = none := x3.out Da _ hD2 gD2 zD2
      have zD3 : ¬ zone g3 Da := fun z => by
        rcases x3.zn Da z with q | q
        · exact zD2 q
        · rw [hD2] at q
          cases q
      have Rh : Rel K ⟨g3, H'', none, none⟩ g3 ⟨hideE vs s1.e, n2⟩ (wipe σ vs) H'' := R3.hide (vs := vs)
      refine hg ⟨g3, H'', none, none⟩ x (wipe σ vs) H'' _ ⟨g3, _, items[i], _, Rh, dv, q2, fun g4 s4 σ4 H4 x4 R4 o4 q4 => ?_⟩
      have hw : wipe σ4 vs = wipe σ vs := by
        have e1 : wipe σ4 vs = wipe (wipe σ vs) vs := wipe_eq o4.1 fun j hj => o4.2 j fun z => hj (hv j z)
        rw [e1]
        exact wipe_eq (wipe_length σ vs) fun j hj => wipe_at hj
      -- what a state behind the turn's base still has of the list
      have keepD : ∀ {g5 : Gh} {s5 : VS} {H5 : Hp}, Rel K ⟨g3, H'', none, none⟩ g5 s5 σ4 H5 → H5 Da = some (.lst us) ∧ g5.G Da = none ∧ ¬ zone g5 Da := fun {g5 s5 H5} R5 =>
        ⟨R5.ext.keep Da _ hD3 zD3 (fun _ z => nomatch z), R5.ext.out Da _ hD3 gD3 zD3, fun z => by
          rcases R5.ext.zn Da z with q | q
          · exact zD3 q
          · have q' : H'' Da = none := q
            rw [hD3] at q'
            cases q'⟩
      refine ⟨hw, ht ⟨g3, H'', none, none⟩ σ4 H4 _ ⟨g4, s4, _, _, R4, q4, fun g5 s5 H5 b x5 R5 q5 => ?_, fun _ _ _ _ _ _ _ _ _ z => z⟩⟩
      cases b with
      | false =>
        obtain ⟨k1, k2, k3⟩ := keepD R5
        have R5' := R3.unhide R5
        exact ⟨hlt, g5, s5.n, acc, us, (x2.trans x3).trans R5.ext, R5.gh, k2, k3, k1, dacc.mono (x3.gx.trans R5.ext.gx), q5⟩
      | true =>
        refine he ⟨g3, H'', none, none⟩ σ4 H5 _ ⟨g5, s5, _, _, R5, q5, fun g6 s6 H6 y d x6 R6 dy q6 => ?_, fun _ _ _ _ _ _ _ _ _ z => z⟩
        obtain ⟨k1, k2, k3⟩ := keepD R6
        have e6 : Ext g1 H1 g6 H6 := (x2.trans x3).trans R6.ext
        have dn : H1 Da = none := hD
        refine ⟨us, k1, by rw [dacc.length]; exact q6.1, hlt, g6, s6.n, acc ++ [d], us ++ [y], ?_, ?_, k2, k3, upd_same, (dacc.mono (x3.gx.trans R6.ext.gx)).app (.cons dy .nil), q6.2⟩
        · refine ⟨e6.sG, fun b o e hz ht => ?_, ⟨e6.tb.1, fun t => tab_chg k1 (fun _ z => nomatch z) (fun _ _ z => nomatch z) _ (e6.tb.2 t)⟩, e6.out, fun b o e => ?_, e6.am, e6.zn, e6.lc⟩
          · rw [upd_ne (ne_of_none e dn)]
            exact e6.keep b o e hz ht
          · obtain ⟨o', h'⟩ := e6.th b o e
            exact ⟨o', by rw [upd_ne (ne_of_none e dn)]; exact h'⟩
        · refine ⟨fun b u e => ?_, R6.gh.nt, fun z e => ?_, R6.gh.off, R6.gh.mem.keep (Gx.refl _) rfl rfl R6.gh.mem.dz fun a o l e _ => (upd_ne fun (z : a = Da) => k3 (.inr (z ▸ l))).trans e⟩
          · rw [upd_ne (fun z => by rw [z, k2] at e; cases e)]
            exact R6.gh.sub _ _ e
          · obtain ⟨dz, hn⟩ := R6.gh.dr z e
            have n1 : Da ≠ z.am := fun e2 => k3 (.inl ⟨z, e, .inl e2⟩)
            have n2 : Da ≠ z.ac := fun e2 => k3 (.inl ⟨z, e, .inr (.inl e2)⟩)
            have n3 : Da ≠ z.al := fun e2 => k3 (.inl ⟨z, e, .inr (.inr e2)⟩)
            exact ⟨⟨by rw [upd_ne n1.symm]; exact dz.m, by rw [upd_ne n2.symm]; exact dz.c, by rw [upd_ne n3.symm]; exact dz.l, dz.ne, dz.bits, dz.clen, dz.pos, dz.llen⟩, hn⟩
    rcases yl x H'' hy with ⟨rfl, dv⟩ | ⟨q, xs, ds, hq, rfl, rfl, ed, dv⟩
    · exact fin g2 (Ext.refl _ _) ok2 dv hD2
    · have gx := Gx.put (g := g2) (p := q) (o := .tup xs) (ok2.sub.free hq)
      refine fin _ (Ext.put ok2.sub hq) (ok2.put hq) ?_ (by rw [upd_ne (ne_of_none hD2 hq)]; exact hD2)
      rw [ed]
      exact DV.t (SqT.of (show upd g2.G q _ q = _ from upd_same)) (dv.mono gx)
  · left
    have e : i = items.length := by omega
    subst e
    rw [List.drop_length] at q2
    refine ⟨it.stop g2 H' x2.gx ok2.sub, ?_⟩
    refine hk g2 _ H' Da us acc (x1.trans x2.gx) R2 hD2 dacc q2 gD2 zD2 ?_ fun j c e1 e2 => ?_
    · cases e : B.H Da with
      | none => rfl
      | some o =>
        obtain ⟨o', e'⟩ := R1.ext.th Da o e
        rw [hD] at e'
        cases e'
    · obtain ⟨b, e3, ho, _, _, _, j4, _⟩ := R1.own e1
      rw [e2] at e3
      have eb : Da = b := V.ref.inj (Option.some.inj (Option.some.inj e3))
      rw [← eb, hD] at j4
      cases j4
def mYes : M Bool := fun s Q _ => Q true s
/-- [elt for tg in iter if ..] -/
theorem pm_comp {scope : Scope} {own : List (Str × Nat)} (hc : X.calm = true) (hN : X.N.Nodup) (hi : PMI X B W tg iter mi) (ok : BlkOk X.N X.env.scope scope own) (hv : ∀ i ∈ is, i ∈ own.map (·.2))
    (hg : ∀ (s : Shared) (H : Hp) (C : Addr) (cl : List (Str × Addr)) (fp : List Addr) (B' : Bs), PMG (X.blk s H scope (compEnvC scope cl C X.env) fp) B' is tg mg)
    (he : ∀ (s : Shared) (H : Hp) (C : Addr) (cl : List (Str × Addr)) (fp : List Addr) (B' : Bs), PM (X.blk s H scope (compEnvC scope cl C X.env) fp) B' W0 elt me) (hs : ∀ x, foldedSetIterable iter X.env x = pure x := by intro _; rfl) :
    PM X B W (.ListComp elt [⟨tg, iter, [], 0⟩] scope pos) (mComp (own.map (·.2)) mi mg mYes me) := by
  have hg' : ∀ (s : Shared) (H : Hp) (C : Addr) (cl : List (Str × Addr)) (fp : List Addr), PG (X.blk s H scope (compEnvC scope cl C X.env) fp) tg (fun v σ H Q => ∃ B', rdG X.K B' is mg v σ H Q) :=
    fun s H C cl fp => ⟨fun pins s' σ H' v u Q I r ⟨B', q⟩ => (hg s H C cl fp B').run pins s' σ H' v u Q I r q⟩
  have he' : ∀ (s : Shared) (H : Hp) (C : Addr) (cl : List (Str × Addr)) (fp : List Addr), PE (X.blk s H scope (compEnvC scope cl C X.env) fp) elt (fun σ H Q => ∃ B', rdE X.K B' W0 me σ H Q) :=
    fun s H C cl fp => ⟨fun pins s' σ H' Q I ⟨B', q⟩ => (he s H C cl fp B').run pins s' σ H' Q I q⟩
  refine impE (pe_lc hc hN hi ok hg' (fun _ _ _ _ _ => pts_nil) he' hs) fun σ H Q h => ?_
  refine rd_comp hv _ _ _ _ (fun _ _ _ z => z) (fun B' _ _ _ _ z => ⟨B', z⟩) (fun B' σ H Q z => ?_) (fun B' _ _ _ z => ⟨B', z⟩) σ H Q (rdN_of (rdF_of h))
  obtain ⟨g, s, Qd, E, R, hm, hk, hx⟩ := z
  exact hk g s H true (Gx.refl _) R hm
theorem pe_compIfF {scope : Scope} {own : List (Str × Nat)} {tc : M Bool} (hc : X.calm = true) (hN : X.N.Nodup) (hi : PMI X B W tg iter mi) (ok : BlkOk X.N X.env.scope scope own) (hv : ∀ i ∈ is, i ∈ own.map (·.2))
    (hg : ∀ (s : Shared) (H : Hp) (C : Addr) (cl : List (Str × Addr)) (fp : List Addr) (B' : Bs), PMG (X.blk s H scope (compEnvC scope cl C X.env) fp) B' is tg mg)
    (ht : ∀ (s : Shared) (H : Hp) (C : Addr) (cl : List (Str × Addr)) (fp : List Addr) (B' : Bs), PMT (X.blk s H scope (compEnvC scope cl C X.env) fp) B' W0 c tc)
    (he : ∀ (s : Shared) (H : Hp) (C : Addr) (cl : List (Str × Addr)) (fp : List Addr) (B' : Bs), PM (X.blk s H scope (compEnvC scope cl C X.env) fp) B' W0 elt me) (hs : ∀ x, foldedSetIterable iter X.env x = pure x := by intro _; rfl) :
    PE X (.ListComp elt [⟨tg, iter, [c], 0⟩] scope pos) (rdF X.K B W (mComp (own.map (·.2)) mi mg tc me)) := by
  have hg' : ∀ (s : Shared) (H : Hp) (C : Addr) (cl : List (Str × Addr)) (fp : List Addr), PG (X.blk s H scope (compEnvC scope cl C X.env) fp) tg (fun v σ H Q => ∃ B', rdG X.K B' is mg v σ H Q) :=
    fun s H C cl fp => ⟨fun pins s' σ H' v u Q I r ⟨B', q⟩ => (hg s H C cl fp B').run pins s' σ H' v u Q I r q⟩
  have ht' : ∀ (s : Shared) (H : Hp) (C : Addr) (cl : List (Str × Addr)) (fp : List Addr), PT (X.blk s H scope (compEnvC scope cl C X.env) fp) c (fun σ H Q => ∃ B', rdT X.K B' W0 tc σ H Q) :=
    fun s H C cl fp => ⟨fun pins s' σ H' Q I ⟨B', q⟩ => (ht s H C cl fp B').run pins s' σ H' Q I q⟩
  have he' : ∀ (s : Shared) (H : Hp) (C : Addr) (cl : List (Str × Addr)) (fp : List Addr), PE (X.blk s H scope (compEnvC scope cl C X.env) fp) elt (fun σ H Q => ∃ B', rdE X.K B' W0 me σ H Q) :=
    fun s H C cl fp => ⟨fun pins s' σ H' Q I ⟨B', q⟩ => (he s H C cl fp B').run pins s' σ H' Q I q⟩
  refine impE (pe_lc hc hN hi ok hg' (fun s H C cl fp => pts_one (ht' s H C cl fp)) he' hs) fun σ H Q h => ?_
  exact rd_comp hv _ _ _ _ (fun _ _ _ z => z) (fun B' _ _ _ _ z => ⟨B', z⟩) (fun B' _ _ _ z => ⟨B', z⟩) (fun B' _ _ _ z => ⟨B', z⟩) σ H Q (rdN_of h)
theorem pm_compIf {scope : Scope} {own : List (Str × Nat)} {tc : M Bool} (hc : X.calm = true) (hN : X.N.Nodup) (hi : PMI X B W tg iter mi) (ok : BlkOk X.N X.env.scope scope own) (hv : ∀ i ∈ is, i ∈ own.map (·.2))
    (hg : ∀ (s : Shared) (H : Hp) (C : Addr) (cl : List (Str × Addr)) (fp : List Addr) (B' : Bs), PMG (X.blk s H scope (compEnvC scope cl C X.env) fp) B' is tg mg)
    (ht : ∀ (s : Shared) (H : Hp) (C : Addr) (cl : List (Str × Addr)) (fp : List Addr) (B' : Bs), PMT (X.blk s H scope (compEnvC scope cl C X.env) fp) B' W0 c tc)
    (he : ∀ (s : Shared) (H : Hp) (C : Addr) (cl : List (Str × Addr)) (fp : List Addr) (B' : Bs), PM (X.blk s H scope (compEnvC scope cl C X.env) fp) B' W0 elt me) (hs : ∀ x, foldedSetIterable iter X.env x = pure x := by intro _; rfl) :
    PM X B W (.ListComp elt [⟨tg, iter, [c], 0⟩] scope pos) (mComp (own.map (·.2)) mi mg tc me) := impE (pe_compIfF hc hN hi ok hv hg ht he hs) fun σ H Q h => rdF_of h
end
end VL
namespace VL
open PySem L2
structure FnG (P : Program) (w : World) (K : PySem.W.Frag) (mg : Str → Option Value) (base : Heap) (k : Nat) (f : Addr) (fd : FuncData) (ps : List Str) (sp : Sp) : Prop where
  len : ∀ vs H Q E, sp vs H Q E → vs.length = ps.length
  run : ∀ (A : Around) (outer : List Env) (s : Shared) (H : Hp) (args : Args) (us : List Value) (vs : List V) (Q : VK) (E : XK), Room k A → A.guards = some [] → Env0 P w K mg base A outer s H → BindsTo s fd args (ps.zip us) → Vals vs us →
    sp vs H Q E → codeAny (model P w) A (.call (.ref f) args) (CR (L2.CX P w) outer P w H s Q E) s
section
variable {P : Program} {w : World} {K : PySem.W.Frag} {mg : Str → Option Value} {base : Heap}
theorem FnG.up {j k : Nat} {f : Addr} {fd : FuncData} {ps : List Str} {sp : Sp} (F : FnG P w K mg base j f fd ps sp) (h : j ≤ k) : FnG P w K mg base k f fd ps sp :=
  ⟨F.len, fun A outer s H args us vs Q E hr => F.run A outer s H args us vs Q E (hr.mono h)⟩
theorem FnG.imp {k : Nat} {f : Addr} {fd : FuncData} {ps : List Str} {sp sp' : Sp} (F : FnG P w K mg base k f fd ps sp) (h : ∀ vs H Q E, sp' vs H Q E → sp vs H Q E) : FnG P w K mg base k f fd ps sp' :=
  ⟨fun vs H Q E q => F.len vs H Q E (h _ _ _ _ q), fun A outer s H args us vs Q E hr hg he hb hv hs => F.run A outer s H args us vs Q E hr hg he hb hv (h _ _ _ _ hs)⟩
/-- a def of the text, by its body -/
theorem fnG_of {x qual : Str} {params : Arguments} {body : List Stmt} {scope : Scope} {dvs : List V} {kws : List (Str × V)} {f : Addr} {fd : FuncData} {N ps : List Str} {k : Nat} {sp : Sp} (F : FunD K x qual params body scope dvs kws f fd) (S : FnScope N ps scope)
    (len : ∀ vs H Q E, sp vs H Q E → vs.length = ps.length)
    (hbody : ∀ (cdv : Value) (A : Around) (outer : List Env) (s : Shared) (H : Hp) (vs : List V) (Q : VK) (E : XK), Room k (A.deeper (PyProof.Rows.envOfC qual scope s.heap.objs.size f cdv)) → A.guards = some [] → sp vs H Q E →
      ∃ t, PSs (cxOf (L2.CX P w) P w K mg base N qual scope f cdv A outer s H E) body t ∧ t { nx := fun _ H' => Q .non H', rt := Q } (L2.start N vs) H) : FnG P w K mg base (k + 1) f fd ps sp := by
  obtain ⟨oc, od, dV, kV, doc, pm, an, cdv, ct, osl, rfl, lk, hcd, _, _⟩ := F.ex
  refine ⟨len, fun A outer s H args us vs Q E hr hgd env bnd rel hsp => ?_⟩
  have hlen := len _ _ _ _ hsp
  have inK : K.In s.heap := env.mod.kin.keeps fun c o q => (env.bs c o q).1
  have noL : s.heap.NoLimit := env.mod.nolimit.keeps fun c o q => (env.bs c o q).1
  have kinds : ∀ y ∈ ps.zip us, scope.names.lookup y.1 = some .local ∨ (scope.names.lookup y.1 = some .cell ∧ ((cellsFrom (s.heap.objs.size + 1) scope.names []).lookup y.1).isSome = true) := by
    rintro ⟨n, v⟩ hy
    rcases S.par n (List.of_mem_zip hy).1 with z | z
    · exact .inl z
    · exact .inr ⟨z, PySem.W.cellsFrom_some _ _ _ (.inl z)⟩
  refine codeAny_call_function hr.depth (inK _ _ lk) rfl S.co S.gen rfl (PySem.W.codeRec_of inK hcd) (bnd _ _ _ _ ?_)
  refine wpAny_newFunctionEnv_cells S.kind kinds fun en hen s1 st => ?_
  subst hen
  refine ⟨noL.keeps st.toInCall.keep, codeAny_func ?_⟩
  obtain ⟨t, ht, hq⟩ := hbody cdv A outer s H vs Q E (hr.deeper _) hgd hsp
  have I : Inv (cxOf (L2.CX P w) P w K mg base N qual scope f cdv A outer s H E) [] (L2.start N vs) H s1 := inv_start S hr.hd env hlen rel st
  refine wpAny_mono (ht.run [] s1 (L2.start N vs) H _ I hq) (fun fl s' hs => ?_) fun e s' hs => hs
  have done : ∀ {τ : L2.St} {H' : Hp} {v : V} {u : Value}, Inv (cxOf (L2.CX P w) P w K mg base N qual scope f cdv A outer s H E) [] τ H' s' → RelV v u → Q v H' → CE outer P w H s Q u s' :=
    fun {τ H' v u} J rv q => ⟨v, H', J.os, J.bare, J.base, J.hok, rv, q⟩
  cases fl with
  | ret u =>
    obtain ⟨v, τ, H', J, rv, q⟩ := hs
    exact done J rv q
  | next =>
    obtain ⟨τ, H', J, q⟩ := hs
    exact done (v := V.non) (u := Value.none) J rfl q
  | brk => exact hs.elim fun _ z => z.elim fun _ z => z.2.elim
  | cont => exact hs.elim fun _ z => z.elim fun _ z => z.2.elim
end
abbrev FT := List D → Ms → (D → Ms → Prop) → (Exn → Ms → Prop) → Prop
def spOf (K : PySem.W.Frag) (n : Nat) (F : FT) : Sp := fun vs H Q E => vs.length = n ∧ ∃ g m ds Qd Ed, TbOk K g H ∧ GhOk g H m ∧ DVs K g ds vs ∧ F ds m Qd Ed ∧
  (∀ g' H' n' v d, Ext g H g' H' → GhOk g' H' n' → DV K g' d v → Qd d n' → Q v H') ∧ (∀ g' H' n' x cls dd, Ext g H g' H' → GhOk g' H' n' → ExcOk K g' H' x cls dd → Ed x n' → E cls dd H')
def startE (N : Nat) (ds : List D) : List Slot := ds.map .dat ++ List.replicate (N - ds.length) .un
theorem Rel.start {K : PySem.W.Frag} {g : Gh} {H : Hp} {n : Ms} {N : List Str} {ds : List D} {vs : List V} (ok : GhOk g H n) (ht : TbOk K g H) (h : DVs K g ds vs) : Rel K ⟨g, H, none, none⟩ g ⟨startE N.length ds, n⟩ (L2.start N vs) H := by
  have hl := h.length
  refine ⟨ok, Ext.refl _ _, ?_, fun i sl o h1 h2 => ?_, fun i j xs ys h1 => ?_, fun _ _ z => (nomatch z), fun _ z => (nomatch z), ht⟩
  · show (startE N.length ds).length = (L2.start N vs).length
    unfold startE L2.start
    rw [List.length_append, List.length_append, List.length_map, List.length_map, List.length_replicate, List.length_replicate, hl]
  · have h1' : (startE N.length ds)[i]? = some sl := h1
    unfold startE at h1'
    unfold L2.start at h2
    by_cases hi : i < ds.length
    · rw [List.getElem?_append_left (by rw [List.length_map]; exact hi), List.getElem?_map] at h1'
      rw [List.getElem?_append_left (by rw [List.length_map, hl]; exact hi), List.getElem?_map] at h2
      cases q : ds[i]? with
      | none => rw [q] at h1'; cases h1'
      | some d =>
        obtain ⟨v, e1, dv⟩ := h.get q
        rw [q] at h1'
        rw [e1] at h2
        cases h1'
        cases h2
        exact ⟨v, rfl, dv⟩
    · rw [List.getElem?_append_right (by rw [List.length_map]; omega), List.getElem?_replicate] at h1'
      split at h1'
      · cases h1'
        trivial
      · cases h1'
  · have h1' : (startE N.length ds)[i]? = some (.own xs) := h1
    unfold startE at h1'
    by_cases hi : i < ds.length
    · rw [List.getElem?_append_left (by rw [List.length_map]; exact hi), List.getElem?_map] at h1'
      cases q : ds[i]? with
      | none => rw [q] at h1'; cases h1'
      | some d => rw [q] at h1'; cases h1'
    · rw [List.getElem?_append_right (by rw [List.length_map]; omega), List.getElem?_replicate] at h1'
      split at h1' <;> cases h1'
def endsOf (Q : D → Ms → Prop) (E : Exn → Ms → Prop) : VE := ⟨fun s => Q .non s.n, Q, fun _ => False, fun _ => False, fun x s => E x s.n⟩
section
variable {P : Program} {w : World} {K : PySem.W.Frag} {mg : Str → Option Value} {base : Heap}
/-- a def over trees: the body's derivation, and what its mirror does -/
theorem fn_val {x qual : Str} {params : Arguments} {body : List Stmt} {scope : Scope} {dvs : List V} {kws : List (Str × V)} {f : Addr} {fd : FuncData} {N ps : List Str} {k n : Nat} {F : FT} {m : MS} (Fu : FunD K x qual params body scope dvs kws f fd) (S : FnScope N ps scope) (hn : ps.length = n)
    (hder : ∀ (cdv : Value) (A : Around) (outer : List Env) (s : Shared) (H : Hp) (E : XK) (B : Bs) (W : WX), B.xs = none → Room k (A.deeper (PyProof.Rows.envOfC qual scope s.heap.objs.size f cdv)) → A.guards = some [] →
      Takes (cxOf (L2.CX P w) P w K mg base N qual scope f cdv A outer s H E) W → PassesOwn (model P w) (A.deeper (PyProof.Rows.envOfC qual scope s.heap.objs.size f cdv)) (PyProof.Rows.envOfC qual scope s.heap.objs.size f cdv) (cxOf (L2.CX P w) P w K mg base N qual scope f cdv A outer s H E).xe →
      PMSs (cxOf (L2.CX P w) P w K mg base N qual scope f cdv A outer s H E) B W body m)
    (hv : ∀ ds n Q E, F ds n Q E → m ⟨startE N.length ds, n⟩ (endsOf Q E)) : FnG P w K mg base (k + 1) f fd ps (spOf K n F) := by
  subst hn
  refine fnG_of Fu S (fun vs H Q E h => h.1) fun cdv A outer s H vs Q E hr hg hsp => ?_
  obtain ⟨hl, g, m', ds, Qd, Ed, ht, ok, dv, hf, hq, he⟩ := hsp
  refine ⟨_, hder cdv A outer s H E ⟨g, H, none, none⟩ (fun cls d _ H' => E cls d H') rfl hr hg (takes_of rfl rfl rfl rfl) (passes_of (X := cxOf (L2.CX P w) P w K mg base N qual scope f cdv A outer s H E) rfl), ?_⟩
  refine ⟨g, _, _, Rel.start ok ht dv, hv ds m' Qd Ed hf, ⟨fun g' s' σ' H' x R q => hq g' H' s'.n _ _ R.ext R.gh DV.n q, fun g' n' H' v d x e k dv q => hq g' H' n' v d e k dv q, fun _ _ _ _ _ _ z => z.elim, fun _ _ _ _ _ _ z => z.elim,
    fun g' s' σ' H' e cls dd x R ex q => he g' H' s'.n e cls dd R.ext R.gh ex q⟩⟩
/-- a def that may be called by its name -/
def Has (P : Program) (w : World) (K : PySem.W.Frag) (mg : Str → Option Value) (base : Heap) (x : Str) (k n : Nat) (F : FT) : Prop :=
  ∃ f fd ps, mg x = some (.ref f) ∧ PySem.W.keepIn K (.ref f) = true ∧ ps.length = n ∧ Binds K fd ps [] ∧ FnG P w K mg base k f fd ps (spOf K n F)
theorem Has.up {x : Str} {j k n : Nat} {F : FT} (h : Has P w K mg base x j n F) (hk : j ≤ k) : Has P w K mg base x k n F := by
  obtain ⟨f, fd, ps, h1, h2, h3, h4, h5⟩ := h
  exact ⟨f, fd, ps, h1, h2, h3, h4, h5.up hk⟩
theorem spOf_imp {n : Nat} {F F' : FT} (h : ∀ ds m Q E, F' ds m Q E → F ds m Q E) : ∀ vs H Q E, spOf K n F' vs H Q E → spOf K n F vs H Q E := fun vs H Q E ⟨hl, g, m, ds, Qd, Ed, ht, h1, h2, h3, h4⟩ => ⟨hl, g, m, ds, Qd, Ed, ht, h1, h2, h _ _ _ _ h3, h4⟩
theorem Has.imp {x : Str} {k n : Nat} {F F' : FT} (h : Has P w K mg base x k n F) (hf : ∀ ds m Q E, F' ds m Q E → F ds m Q E) : Has P w K mg base x k n F' := by
  obtain ⟨f, fd, ps, h1, h2, h3, h4, h5⟩ := h
  exact ⟨f, fd, ps, h1, h2, h3, h4, h5.imp (spOf_imp hf)⟩
end
section
variable {X : Cx} {B : Bs} {W : WX} {a b c tg iter elt : Expr} {es ifs : List Expr} {ma mb mc me : M D} {mes mi : M (List D)} {ta tb : M Bool} {p pos : Pos} {st : Stmt} {sts : List Stmt} {m k : MS} {mg : MG} {is : List Nat}
theorem run_fnG {kk : Nat} {f : Addr} {fd : FuncData} {ps : List Str} {sp : Sp} {E : XK} {pins : List (Addr × Obj)} {σ : L2.St} {H : Hp} {s : Shared} {Q : VK} {us : List Value} {vs : List V} (F : FnG X.prog X.w X.K X.mg X.base kk f fd ps sp) (hr : Room kk X.A) (hgd : X.A.guards = some []) (hb : Binds X.K fd ps [])
    (hx : PassesAt (L2.CX X.prog X.w) X σ E) (I : Inv X pins σ H s) (r : Vals vs us) (h : sp vs H Q E) : wpAny (model X.prog X.w) X.A (call (.ref f) us) (EP X pins σ Q) X.xe s := by
  have hl : us.length = ps.length := by
    rw [← r.length]
    exact F.len _ _ _ _ h
  have bb := hb s us I.kIn (by rw [List.append_nil]; exact hl)
  rw [List.append_nil] at bb
  refine wpAny_call (codeAny_mono (F.run X.A X.stack s H ⟨us, []⟩ us vs Q E hr hgd I.env0 bb r h) fun res s' hq => ?_)
  cases res with
  | error e => exact hx pins H s e s' I hq
  | ok fl =>
    cases fl with
    | ret u => exact I.after hq
    | next => exact False.elim hq
    | brk => exact False.elim hq
    | cont => exact False.elim hq
def mCall (n : Nat) (F : FT) (m : M (List D)) : M D := fun s Q E => m s (fun ds s' => ds.length = n ∧ F ds s'.n (fun d n' => Q d ⟨s'.e, n'⟩) fun x n' => E x ⟨s'.e, n'⟩) E
/-- what is asked of the arguments' values -/
theorem rd_call {K : PySem.W.Frag} {n : Nat} {F : FT} (σ : L2.St) (H : Hp) (Q : VK) (h : rdE K B W (mCall n F mes) σ H Q) : rdA K B W mes σ H fun vs H1 => spOf K n F vs H1 Q (WE W σ) := by
  obtain ⟨g, s, Qd, E, R, hm, hk, hx⟩ := h
  refine ⟨g, s, _, E, R, hm, fun g1 s1 H1 vs ds x1 R1 dv q1 => ?_, hx⟩
  refine ⟨by rw [dv.length]; exact q1.1, g1, s1.n, ds, _, _, R1.tb, R1.gh, dv, q1.2, fun g2 H2 n2 v d e ok dv2 q2 => hk g2 _ H2 v d (x1.trans e.gx) (R1.step e ok) dv2 q2, fun g2 H2 n2 y cls dd e ok ex q2 => hx g2 _ H2 y cls dd (x1.trans e.gx) (R1.step e ok) ex q2⟩
theorem pm_call {x : Str} {kk n : Nat} {F : FT} (h : Has X.prog X.w X.K X.mg X.base x kk n F) (hr : Room kk X.A) (hgd : X.A.guards = some []) (tk : Takes X W) (ha : PMA X B W (a :: es) mes) (hg : Gl X x := by rfl) (hdb : (x == ("__debug__" : Str)) = false := by decide)
    (he : starEach (a :: es) X.env = (false, eval a X.env) :: starEach es X.env := by rfl) (hpl : (backTo pos (starEach es X.env)).any (·.1) = false := by rfl) : PM X B W (.Call (.Name x p) (a :: es) [] pos) (mCall n F mes) := by
  obtain ⟨f, fd, ps, h1, h2, h3, h4, h5⟩ := h
  refine ⟨fun pins s σ H Q I hq => ?_⟩
  refine wpAny_Call_Name_kw (ld_glob I hg h1 ?_ hdb)
  refine PySem.W.callWith_K (h₀ := X.base) I.ok.mod.kin h2 (thn (ha.run pos pins s σ H _ I (rd_call σ H Q hq)) fun us s1 ⟨vs, H1, I1, r, q⟩ => ⟨I1.kIn, ?_⟩) he hpl
  exact run_fnG h5 hr hgd h4 (passAt tk σ) I1 r q
theorem DVf.get {K : PySem.W.Frag} {g : Gh} {f : Str} {d : D} : ∀ {fs : List (Str × D)} {ws : List (Str × V)}, DVf K g fs ws → fs.lookup f = some d → ∃ v, ws.lookup f = some v ∧ DV K g d v
  | [], _, _, e => by cases e
  | (k, d') :: fs, ws, h, e => by
    simp only [DVf] at h
    obtain ⟨v, r, rfl, h1, h2⟩ := h
    rw [List.lookup_cons] at e
    by_cases q : (f == k) = true
    · rw [q] at e
      cases e
      exact ⟨v, by rw [List.lookup_cons, q], h1⟩
    · have q' : (f == k) = false := by simpa using q
      rw [q'] at e
      obtain ⟨u, e1, e2⟩ := DVf.get h2 e
      exact ⟨u, by rw [List.lookup_cons, q']; exact e1, e2⟩
theorem DVf.no {K : PySem.W.Frag} {g : Gh} {f : Str} : ∀ {fs : List (Str × D)} {ws : List (Str × V)}, DVf K g fs ws → fs.lookup f = none → ws.lookup f = none
  | [], ws, h, _ => by
    have e : ws = [] := by simpa only [DVf] using h
    rw [e]
    rfl
  | (k, d') :: fs, ws, h, e => by
    simp only [DVf] at h
    obtain ⟨v, r, rfl, h1, h2⟩ := h
    rw [List.lookup_cons] at e
    by_cases q : (f == k) = true
    · rw [q] at e
      cases e
    · have q' : (f == k) = false := by simpa using q
      rw [q'] at e
      rw [List.lookup_cons, q']
      exact DVf.no h2 e
theorem DVf.length {K : PySem.W.Frag} {g : Gh} : ∀ {fs : List (Str × D)} {ws : List (Str × V)}, DVf K g fs ws → ws.length = fs.length
  | [], ws, h => by
    have e : ws = [] := by simpa only [DVf] using h
    rw [e]
    rfl
  | (k, d') :: fs, ws, h => by
    simp only [DVf] at h
    obtain ⟨v, r, rfl, h1, h2⟩ := h
    rw [List.length_cons, List.length_cons, DVf.length h2]
def putD (f : Str) (d : D) : List (Str × D) → List (Str × D)
  | [] => [(f, d)]
  | (k, e) :: r => if k = f then (k, d) :: r else (k, e) :: putD f d r
theorem DVf.put {K : PySem.W.Frag} {g : Gh} {f : Str} {d : D} {v : V} (hd : DV K g d v) : ∀ {fs : List (Str × D)} {ws : List (Str × V)}, DVf K g fs ws → DVf K g (putD f d fs) (putF f v ws)
  | [], ws, h => by
    have e : ws = [] := by simpa only [DVf] using h
    subst e
    simp only [putD, putF, DVf]
    exact ⟨v, [], rfl, hd, rfl⟩
  | (k, e) :: fs, ws, h => by
    simp only [DVf] at h
    obtain ⟨u, r, rfl, h1, h2⟩ := h
    simp only [putD, putF]
    by_cases q : k = f
    · rw [if_pos q, if_pos q]
      simp only [DVf]
      exact ⟨v, r, rfl, hd, h2⟩
    · rw [if_neg q, if_neg q]
      simp only [DVf]
      exact ⟨u, _, rfl, h1, DVf.put hd h2⟩
/-- what a class's instances bear -/
structure ClsI (K : PySem.W.Frag) (C : Str) (fs : List Str) : Prop where
  cl : Cls K (He.ga K C)
  no : ∀ f ∈ fs, NoAttr K (He.ga K C) f
def fldD (C f : Str) : D → (D → Prop) → Prop
  | .ins C' fs, Q => C' = C ∧ ∃ d, fs.lookup f = some d ∧ Q d
  | _, _ => False
/-- a.f of an instance that is data -/
theorem pm_fld {C f : Str} {fl : List Str} (c : ClsI X.K C fl) (ha : PM X B W a ma) (hf : f ∈ fl := by simp) (hb : attributeBase a f X.env (eval a X.env) = eval a X.env := by rfl) : PM X B W (.Attribute a f pos) (mUn (fldD C f) ma) := by
  refine impE (pe_fld ha hb) fun σ H Q h => ?_
  obtain ⟨g, s, Qd, E, R, hm, hk, hx⟩ := h
  refine ⟨g, s, _, E, R, hm, fun g1 s1 H1 x d1 x1 R1 dx q1 => ?_, hx⟩
  cases d1 <;> first | exact (show False from q1).elim | skip
  rename_i C' fs
  obtain ⟨rfl, d, hl, q⟩ := q1
  simp only [DV] at dx
  obtain ⟨q', dx', ws, rfl, e1, e2⟩ := dx
  obtain ⟨v, hv, dv⟩ := e2.get hl
  exact ⟨q', _, dx', ws, v, rfl, R1.gh.sub _ _ e1, c.cl, c.no f hf, hv, hk g1 s1 H1 _ _ x1 R1 dv q⟩
/-- slot.f = a, the slot's instance its own -/
def mFldSet (i : Nat) (C f : Str) (m : M D) : MS := fun s K => m s (fun d s' => match s'.e[i]? with
  | some (.own (.o C' fs)) => C' = C ∧ fs.length < 1000 ∧ K.nx ⟨s'.e.set i (.own (.o C (putD f d fs))), s'.n⟩
  | _ => False) K.ex
theorem pms_fld (i : Nat) {x C f : Str} {fl : List Str} {xp ap : Pos} (c : ClsI X.K C fl) (ha : PM X B W a ma) (hf : f ∈ fl := by simp) (hi : X.N[i]? = some x := by rfl) (hx : Vis X.env.scope x := by first | exact Or.inl rfl | exact Or.inr (Or.inl rfl))
    (hd : (x == ("__debug__" : Str)) = false := by decide) (hcd : (x == ("__classdict__" : Str)) = false := by decide) (hs : swapsWith a (some (.Attribute (.Name x xp) f ap)) pos.line X.env = pure false := by rfl) :
    PMS X B W (.Assign [.Attribute (.Name x xp) f ap] a pos) (mFldSet i C f ma) := by
  refine impS (ps_fld (pe_var (i := i) hi hx hd hcd) ha hs) fun D σ H ⟨g, s, K, R, hm, ok⟩ => ?_
  refine ⟨g, s, _, K.ex, R, hm, fun g1 s1 H1 v d x1 R1 dv q1 => ?_, ok.x σ⟩
  cases e : s1.e[i]? with
  | none => rw [e] at q1; exact q1.elim
  | some sl =>
    rw [e] at q1
    cases sl with
    | un => exact q1.elim
    | dat _ => exact q1.elim
    | own oc =>
      cases oc with
      | l ds => exact q1.elim
      | o C' fs =>
        obtain ⟨rfl, hlen, q1⟩ := q1
        obtain ⟨q, e1, ho, j1, j2, j3, j4, j5⟩ := R1.own e
        cases ho <;> first | exact j5.elim | skip
        obtain ⟨rfl, j5⟩ := j5
        refine ⟨.ref q, e1, q, _, _, _, rfl, j4, c.cl, c.no f hf, by rw [j5.length]; exact hlen, ok.nx g1 _ σ _ x1 (R1.chg (es := .o C' (putD f d fs)) e e1 ⟨rfl, j5.put dv⟩) q1⟩
end
end VL
namespace VL
open PySem L2
abbrev FI := List D → Ms → (List (Str × D) → Ms → Prop) → (Exn → Ms → Prop) → Prop
def hid (a : Addr) (H : Hp) : Hp := fun b => if b = a then none else H b
theorem hid_ne {a b : Addr} {H : Hp} (h : b ≠ a) : hid a H b = H b := by unfold hid; rw [if_neg h]
theorem hid_at {a : Addr} {H : Hp} : hid a H a = none := by unfold hid; rw [if_pos rfl]
def spInit (K : PySem.W.Frag) (C : Str) (n : Nat) (F : FI) : Sp := fun vs H Q E => vs.length = n + 1 ∧ ∃ a dx rest g m ds Qd Ed, TbOk K g H ∧ vs = .ref a :: rest ∧ H a = some (.ins (He.ga K C) dx []) ∧ GhOk g H m ∧ g.G a = none ∧ ¬ zone g a ∧ DVs K g ds rest ∧ F ds m Qd Ed ∧
  (∀ g' H' n' fs dx' ws, Ext g (hid a H) g' H' → GhOk g' H' n' → g'.G a = none → ¬ zone g' a → H' a = some (.ins (He.ga K C) dx' ws) → DVf K g' fs ws → Qd fs n' → Q .non H') ∧
  (∀ g' H' n' x cls dd, Ext g (hid a H) g' H' → GhOk g' H' n' → ExcOk K g' H' x cls dd → Ed x n' → E cls dd H')
def startI (N : Nat) (C : Str) (ds : List D) : List Slot := .own (.o C []) :: startE (N - 1) ds
def endsI (C : Str) (Q : List (Str × D) → Ms → Prop) (E : Exn → Ms → Prop) : VE := ⟨fun s => ∃ fs, s.e[0]? = some (.own (.o C fs)) ∧ Q fs s.n, fun _ _ => False, fun _ => False, fun _ => False, fun x s => E x s.n⟩
theorem Rel.startI {K : PySem.W.Frag} {g : Gh} {H : Hp} {n : Ms} {N : List Str} {C : Str} {a dx : Addr} {ds : List D} {vs : List V} (ok : GhOk g H n) (hg : g.G a = none) (hz : ¬ zone g a) (ha : H a = some (.ins (He.ga K C) dx [])) (ht : TbOk K g H) (h : DVs K g ds vs) (hN : ds.length + 1 ≤ N.length) :
    Rel K ⟨g, hid a H, some a, none⟩ g ⟨startI N.length C ds, n⟩ (L2.start N (.ref a :: vs)) H := by
  have hl := h.length
  have e0 : Ext g (hid a H) g H := ⟨Same.refl _, fun b o e _ _ => by
    by_cases q : b = a
    · rw [q, hid_at] at e
      cases e
    · rw [hid_ne q] at e
      exact e, ⟨rfl, fun t => t.ext fun b o e => by
    by_cases q : b = a
    · rw [q, hid_at] at e
      cases e
    · rw [hid_ne q] at e
      exact e⟩, fun _ _ _ z _ => z, fun b o e => ⟨o, by
    by_cases q : b = a
    · rw [q, hid_at] at e
      cases e
    · rw [hid_ne q] at e
      exact e⟩, fun z e => ⟨z, e, rfl⟩, fun _ z => .inl z, Lx.refl g, rfl⟩
  obtain ⟨x, N', rfl⟩ : ∃ x N', N = x :: N' := by
    cases N with
    | nil => simp at hN
    | cons x N' => exact ⟨x, N', rfl⟩
  have R0 := Rel.start (K := K) (N := N') ok ht h
  have es : L2.start (x :: N') (.ref a :: vs) = some (.ref a) :: L2.start N' vs := by
    unfold L2.start
    simp
  have ev : VL.startI (x :: N').length C ds = .own (.o C []) :: startE N'.length ds := by
    unfold VL.startI
    simp
  rw [es, ev]
  refine ⟨ok, e0, ?_, fun i sl o h1 h2 => ?_, fun i j xs ys h1 h2 h3 => ?_, fun a' c e _ => by cases e; rfl, fun _ z => (nomatch z), ht⟩
  · show (Slot.own (.o C []) :: startE N'.length ds).length = (some (V.ref a) :: L2.start N' vs).length
    rw [List.length_cons, List.length_cons]
    exact congrArg Nat.succ R0.len
  · cases i with
    | zero =>
      have h1' : some (Slot.own (.o C [])) = some sl := h1
      have h2' : some (some (V.ref a)) = some o := h2
      cases h1'
      cases h2'
      exact ⟨a, rfl, _, hid_at, hg, hz, ha, rfl, by simp only [DVf]⟩
    | succ i =>
      have q := R0.sl i sl o (by simpa using h1) (by simpa using h2)
      cases sl with
      | un => trivial
      | dat d => exact q
      | own oc =>
        obtain ⟨b, _, ho, k1, _, _, k4, _⟩ := q
        have k1' : H b = none := k1
        rw [k4] at k1'
        cases k1'
  · have no : ∀ (i : Nat) xs, (startE N'.length ds)[i]? ≠ some (.own xs) := fun i xs h => by
      have hi : i < (L2.start N' vs).length := by
        rw [← R0.len]
        exact (List.getElem?_eq_some_iff.mp h).1
      obtain ⟨b, _, ho, k1, _, _, k4, _⟩ := R0.sl i _ ((L2.start N' vs)[i]) h (by simp [hi])
      have k1' : H b = none := k1
      rw [k4] at k1'
      cases k1'
    cases i with
    | zero =>
      cases j with
      | zero => rfl
      | succ j => exact (no j ys (by simpa using h2)).elim
    | succ i => exact (no i xs (by simpa using h1)).elim
section
variable {P : Program} {w : World} {K : PySem.W.Frag} {mg : Str → Option Value} {base : Heap}
/-- __init__ over trees -/
theorem fn_init {x qual C : Str} {params : Arguments} {body : List Stmt} {scope : Scope} {dvs : List V} {kws : List (Str × V)} {f : Addr} {fd : FuncData} {N ps : List Str} {k n : Nat} {F : FI} {m : MS} (Fu : FunD K x qual params body scope dvs kws f fd) (S : FnScope N ps scope) (hn : ps.length = n + 1) (hN : n + 1 ≤ N.length)
    (hder : ∀ (cdv : Value) (A : Around) (outer : List Env) (s : Shared) (H : Hp) (E : XK) (B : Bs) (W : WX), B.xs = none → Room k (A.deeper (PyProof.Rows.envOfC qual scope s.heap.objs.size f cdv)) → A.guards = some [] →
      Takes (cxOf (L2.CX P w) P w K mg base N qual scope f cdv A outer s H E) W → PassesOwn (model P w) (A.deeper (PyProof.Rows.envOfC qual scope s.heap.objs.size f cdv)) (PyProof.Rows.envOfC qual scope s.heap.objs.size f cdv) (cxOf (L2.CX P w) P w K mg base N qual scope f cdv A outer s H E).xe →
      PMSs (cxOf (L2.CX P w) P w K mg base N qual scope f cdv A outer s H E) B W body m)
    (hv : ∀ ds n Q E, F ds n Q E → m ⟨startI N.length C ds, n⟩ (endsI C Q E)) : FnG P w K mg base (k + 1) f fd ps (spInit K C n F) := by
  refine fnG_of Fu S (fun vs H Q E h => by rw [hn]; exact h.1) fun cdv A outer s H vs Q E hr hg hsp => ?_
  obtain ⟨hl, a, dx, rest, g, m', ds, Qd, Ed, htb, rfl, ha, ok, hga, hza, dv, hf, hq, he⟩ := hsp
  have hd : ds.length + 1 ≤ N.length := by
    rw [List.length_cons, dv.length] at hl
    omega
  refine ⟨_, hder cdv A outer s H E ⟨g, hid a H, some a, none⟩ (fun cls d _ H' => E cls d H') rfl hr hg (takes_of rfl rfl rfl rfl) (passes_of (X := cxOf (L2.CX P w) P w K mg base N qual scope f cdv A outer s H E) rfl), ?_⟩
  have R0 := Rel.startI (N := N) (C := C) ok hga hza ha htb dv hd
  refine ⟨g, _, _, R0, hv ds m' Qd Ed hf, ⟨fun g' s' σ' H' x R q => ?_, fun _ _ _ _ _ _ _ _ _ z => z.elim, fun _ _ _ _ _ _ z => z.elim, fun _ _ _ _ _ _ z => z.elim,
    fun g' s' σ' H' e cls dd x R ex q => he g' H' s'.n e cls dd R.ext R.gh ex q⟩⟩
  obtain ⟨fs, e, q⟩ := q
  obtain ⟨a', e1, ho, j1, j2, j3, j4, j5⟩ := R.own e
  have e2 := R.me a _ rfl e
  rw [e1] at e2
  have ea : a' = a := V.ref.inj (Option.some.inj (Option.some.inj e2))
  subst ea
  cases ho <;> first | exact j5.elim | skip
  rename_i c dx' ws
  obtain ⟨rfl, j5⟩ := j5
  exact hq g' H' s'.n fs dx' ws R.ext R.gh j2 j3 j4 j5 q
/-- a class that may be called -/
def HasC (P : Program) (w : World) (K : PySem.W.Frag) (mg : Str → Option Value) (base : Heap) (C : Str) (k n : Nat) (F : FI) : Prop :=
  mg C = some (.ref (He.ga K C)) ∧ ∃ f fd ps, Mk K (He.ga K C) f ∧ ps.length = n + 1 ∧ Binds K fd ps [] ∧ FnG P w K mg base k f fd ps (spInit K C n F)
/-- a method of a class -/
def HasM (P : Program) (w : World) (K : PySem.W.Frag) (mg : Str → Option Value) (base : Heap) (C m : Str) (k n : Nat) (F : FT) : Prop :=
  ∃ f fd ps, Meth K (He.ga K C) m f ∧ ps.length = n ∧ Binds K fd ps [] ∧ FnG P w K mg base k f fd ps (spOf K n F)
end
theorem guards_make {A : Around} {C : Addr} {us : List Value} {kw : List (Str × Value)} (h : A.guards = some []) : (A.under (.builtin "type.__call__" ⟨.ref C :: us, kw⟩)).guards = some [] := by
  have e : Code.guards (.builtin "type.__call__" ⟨.ref C :: us, kw⟩) = [] := by
    unfold Code.guards
    rw [if_neg]
    simp [Code.isGuard, guardIds]
  simp only [Around.under, e, h]
  rfl
section
variable {X : Cx} {B : Bs} {W : WX} {a b c tg iter elt : Expr} {es ifs : List Expr} {ma mb mc me : M D} {mes mi : M (List D)} {ta tb : M Bool} {p pos : Pos} {st : Stmt} {sts : List Stmt} {m k : MS} {mg : MG} {is : List Nat}
def mMake (C : Str) (n : Nat) (F : FI) (m : M (List D)) : M D := fun s Q E => m s (fun ds s' => ds.length = n ∧ F ds s'.n (fun fs n' => Q (.ins C fs) ⟨s'.e, n'⟩) fun x n' => E x ⟨s'.e, n'⟩) E
theorem run_makeG {kk : Nat} {C f : Addr} {fd : FuncData} {ps : List Str} {sp : Sp} {E : XK} {pins : List (Addr × Obj)} {σ : L2.St} {H : Hp} {s : Shared} {Q : VK} {us : List Value} {vs : List V} (Mm : Mk X.K C f) (F : FnG X.prog X.w X.K X.mg X.base kk f fd ps sp) (hr : Room (kk + 1) X.A) (hgd : X.A.guards = some []) (hb : Binds X.K fd ps [])
    (hx : PassesAt (L2.CX X.prog X.w) X σ E) (I : Inv X pins σ H s) (r : Vals vs us)
    (h : ∀ x dx, H x = none → H dx = none → dx ≠ x → sp (.ref x :: vs) (upd (upd H dx (.own x)) x (.ins C dx [])) (fun v H2 => v = .non ∧ Q (.ref x) H2) E) : wpAny (model X.prog X.w) X.A (call (.ref C) us) (EP X pins σ Q) X.xe s := by
  have hq := h (s.heap.objs.size + 1) s.heap.objs.size (I.hok.fresh (Nat.le_succ _)) (I.hok.fresh (Nat.le_refl _)) (Nat.ne_of_lt (Nat.lt_succ_self _))
  have J := Inv.made (C := C) I
  have rr : Vals (V.ref (s.heap.objs.size + 1) :: vs) (Value.ref (s.heap.objs.size + 1) :: us) := .cons rfl r
  have hl : (Value.ref (s.heap.objs.size + 1) :: us).length = ps.length := by
    rw [← rr.length]
    exact F.len _ _ _ _ hq
  have bb := hb _ (Value.ref (s.heap.objs.size + 1) :: us) J.kIn (by rw [List.append_nil]; exact hl)
  rw [List.append_nil] at bb
  refine wpAny_call (make_map (f := f) I.kIn Mm.makes Mm.init (beq_iff_eq.mp Mm.fn) (codeAny_mono (F.run _ X.stack _ _ ⟨Value.ref (s.heap.objs.size + 1) :: us, []⟩ _ _ _ E (hr.make C us []) (guards_make hgd) (J.env0.make C us []) bb rr hq) fun res s' hq' => ?_))
  cases res with
  | error e => exact hx pins _ _ e s' J hq'
  | ok fl =>
    cases fl with
    | ret u =>
      obtain ⟨v, H', J3, rv, ev, q3⟩ := J.after hq'
      subst ev
      exact ⟨rv, ⟨V.ref (s.heap.objs.size + 1), H', J3, rfl, q3⟩⟩
    | next => exact False.elim hq'
    | brk => exact False.elim hq'
    | cont => exact False.elim hq'
theorem rd_make {K : PySem.W.Frag} {C : Str} {n : Nat} {F : FI} (σ : L2.St) (H : Hp) (Q : VK) (h : rdE K B W (mMake C n F mes) σ H Q) :
    rdA K B W mes σ H fun vs H1 => ∀ x dx, H1 x = none → H1 dx = none → dx ≠ x → spInit K C n F (.ref x :: vs) (upd (upd H1 dx (.own x)) x (.ins (He.ga K C) dx [])) (fun v H2 => v = .non ∧ Q (.ref x) H2) (WE W σ) := by
  obtain ⟨g, s, Qd, E, R, hm, hk, hx⟩ := h
  refine ⟨g, s, _, E, R, hm, fun g1 s1 H1 vs ds x1 R1 dv q1 x dx hx1 hdx hne => ?_, hx⟩
  have hxn : (upd H1 dx (.own x)) x = none := by rw [upd_ne hne.symm]; exact hx1
  have ok2 := (R1.gh.new (o := .own x) hdx).new (o := .ins (He.ga K C) dx []) hxn
  have back : ∀ {g2 : Gh} {H2 : Hp}, Ext g1 (hid x (upd (upd H1 dx (.own x)) x (.ins (He.ga K C) dx []))) g2 H2 → Ext g1 H1 g2 H2 := fun {g2 H2} e => by
    have lift : ∀ b o, H1 b = some o → hid x (upd (upd H1 dx (.own x)) x (.ins (He.ga K C) dx [])) b = some o := fun b o q => by
      have n1 : b ≠ x := ne_of_none q hx1
      rw [hid_ne n1, upd_ne n1, upd_ne (ne_of_none q hdx)]
      exact q
    exact ⟨e.sG, fun b o q hz ht => e.keep b o (lift b o q) hz ht, ⟨e.tb.1, fun t => e.tb.2 (t.ext lift)⟩, fun b o q n nz => e.out b o (lift b o q) n nz, fun b o q => e.th b o (lift b o q), e.am, (fun b z => by
      rcases e.zn b z with q | q
      · exact .inl q
      · right
        cases q2 : H1 b with
        | none => rfl
        | some o =>
          rw [lift b o q2] at q
          cases q), e.lc⟩
  refine ⟨by rw [List.length_cons, dv.length, q1.1], x, dx, vs, g1, s1.n, ds, _, _, ⟨R1.tb.t, R1.tb.k, tab_new hxn _ (tab_new hdx _ R1.tb.s)⟩, rfl, upd_same, ok2, R1.gn hx1, R1.gh.nzone hx1, dv, q1.2, fun g2 H2 n2 fs dx' ws e ok gn zn hw dw q2 => ⟨rfl, ?_⟩, fun g2 H2 n2 y cls dd e ok ex q2 => ?_⟩
  · have e1 := back e
    have gx := Gx.put (g := g2) (p := x) (o := .ins (He.ga K C) dx' ws) gn
    have e2 : Ext g1 H1 (g2.put x (.ins (He.ga K C) dx' ws)) H2 := ⟨e1.sG.trans gx.1, e1.keep, e1.tb, fun b o q n nz => by
      show upd g2.G x _ b = none
      rw [upd_ne (ne_of_none q hx1)]
      exact e1.out b o q n nz, e1.th, e1.am, e1.zn, e1.lc⟩
    have ok3 : GhOk (g2.put x (.ins (He.ga K C) dx' ws)) H2 n2 := ⟨fun b u q => by
      by_cases z : b = x
      · rw [z] at q ⊢
        have q' : upd g2.G x (.ins (He.ga K C) dx' ws) x = some u := q
        rw [upd_same] at q'
        rw [hw]
        exact q'
      · have q' : upd g2.G x (.ins (He.ga K C) dx' ws) b = some u := q
        rw [upd_ne z] at q'
        exact ok.sub _ _ q', fun b u q => by
      by_cases z : b = x
      · rw [z] at q
        have q' : upd g2.G x (.ins (He.ga K C) dx' ws) x = some u := q
        rw [upd_same] at q'
        cases q'
        exact fun _ z => nomatch z
      · have q' : upd g2.G x (.ins (He.ga K C) dx' ws) b = some u := q
        rw [upd_ne z] at q'
        exact ok.nt _ _ q', ok.dr, fun b z => by
      have z' : b ≠ x := fun q => zn (q ▸ z)
      show upd g2.G x _ b = none
      rw [upd_ne z']
      exact ok.off b z, ok.mem.keep gx rfl rfl ok.mem.dz fun _ _ _ e _ => e⟩
    refine hk _ _ H2 _ _ (x1.trans (e1.gx.trans gx)) (R1.step e2 ok3) ?_ q2
    simp only [DV]
    exact ⟨x, dx', ws, rfl, (show upd g2.G x _ x = _ from upd_same), dw.mono gx⟩
  · have e1 := back e
    exact hx g2 _ H2 y cls dd (x1.trans e1.gx) (R1.step e1 ok) ex q2
/-- C(a, ..) -/
theorem pm_make {C : Str} {kk n : Nat} {F : FI} (h : HasC X.prog X.w X.K X.mg X.base C kk n F) (hr : Room (kk + 1) X.A) (hgd : X.A.guards = some []) (tk : Takes X W) (ha : PMA X B W (a :: es) mes) (hg : Gl X C := by rfl) (hdb : (C == ("__debug__" : Str)) = false := by decide)
    (he : starEach (a :: es) X.env = (false, eval a X.env) :: starEach es X.env := by rfl) (hpl : (backTo pos (starEach es X.env)).any (·.1) = false := by rfl) : PM X B W (.Call (.Name C p) (a :: es) [] pos) (mMake C n F mes) := by
  obtain ⟨h1, f, fd, ps, h2, h3, h4, h5⟩ := h
  refine ⟨fun pins s σ H Q I hq => ?_⟩
  refine wpAny_Call_Name_kw (ld_glob I hg h1 ?_ hdb)
  refine PySem.W.callWith_K (h₀ := X.base) I.ok.mod.kin h2.kp (thn (ha.run pos pins s σ H _ I (rd_make σ H Q hq)) fun us s1 ⟨vs, H1, I1, r, q⟩ => ⟨I1.kIn, ?_⟩) he hpl
  exact run_makeG h2 h5 hr hgd h4 (passAt tk σ) I1 r q
end
end VL
namespace VL
open PySem L2
section
variable {X : Cx} {B : Bs} {W : WX} {a b c tg iter elt : Expr} {es ifs : List Expr} {ma mb mc me : M D} {mes mi : M (List D)} {ta tb : M Bool} {p pos : Pos} {st : Stmt} {sts : List Stmt} {m k : MS} {mg : MG} {is : List Nat}
/-- a <= b <= c as a test -/
def mChainT (f k : D → D → (D → Prop) → Prop) (ma mb mc : M D) : M Bool := fun s Q E => mChain f k ma mb mc s (fun d s' => ∃ q, d = .bl q ∧ Q q s') E
theorem pt_chainV {op op' : CmpOp} {r r' : R2} {f k : D → D → (D → Prop) → Prop} (ho : OpR X (compareOp op) r) (hv : OpV X.K r f) (ho' : OpR X (compareOp op') r') (hv' : OpV X.K r' k)
    (ha : PM X B W a ma) (hb : PM X B W b mb) (hc : PM X B W c mc) (h1 : lastMarks [op, op'] [b, c] = false) : PMT X B W (.Compare a [op, op'] [b, c] pos) (mChainT f k ma mb mc) := by
  refine impT (pt_chain ho ho' ha hb hc h1) fun σ H Q h => ?_
  obtain ⟨g, s, Qd, E, R, hm, hk, hx⟩ := h
  refine ⟨g, s, _, E, R, hm, fun g1 s1 H1 x d1 x1 R1 dx q1 => ?_, hx⟩
  refine ⟨g1, s1, _, E, R1, q1, fun g2 s2 H2 y d2 x2 R2 dy q2 => ?_, hx.mono x1⟩
  refine hv g2 H2 s2.n d1 d2 x y _ _ R2.gh (dx.mono x2) dy q2 fun g3 H3 v d e ok dv qd => ?_
  obtain ⟨q, rfl, qd⟩ := qd
  refine ⟨q, dv.of_b, ?_⟩
  have R3 : Rel X.K B g3 s2 σ H3 := R2.step e ok
  have x3 := x1.trans (x2.trans e.gx)
  cases q with
  | false =>
    obtain ⟨q', e', qd⟩ := qd
    cases e'
    exact ⟨false, rfl, hk g3 s2 H3 _ x3 R3 qd⟩
  | true =>
    refine ⟨g3, s2, _, E, R3, qd, fun g4 s4 H4 w d4 x4 R4 dw q4 => ?_, hx.mono x3⟩
    refine hv' g4 H4 s4.n d2 d4 y w _ _ R4.gh (dy.mono (e.gx.trans x4)) dw q4 fun g5 H5 v d e ok dv qd => ?_
    obtain ⟨q', rfl, qd⟩ := qd
    exact ⟨q', dv.of_b, hk g5 s4 H5 _ (x3.trans (x4.trans e.gx)) (R4.step e ok) qd⟩
theorem pt_lele (ha : PM X B W a ma) (hb : PM X B W b mb) (hc : PM X B W c mc) (h1 : lastMarks [.LtE, .LtE] [b, c] = false := by rfl) : PMT X B W (.Compare a [.LtE, .LtE] [b, c] pos)
    (mChainT (ordD (fun i j => decide (i ≤ j)) fun x y => !sLt y x) (ordD (fun i j => decide (i ≤ j)) fun x y => !sLt y x) ma mb mc) :=
  pt_chainV (OpR.or op_le op_le_str) (OpV.or (opv_I0 fun _ _ _ => DV.b) opv_OS fun _ _ _ h => ordD_or h) (OpR.or op_le op_le_str) (OpV.or (opv_I0 fun _ _ _ => DV.b) opv_OS fun _ _ _ h => ordD_or h) ha hb hc h1
/-- name = [elt for tg in iter], the name a local -/
theorem pms_setLc (i : Nat) {y : Str} {py : Pos} {scope : Scope} {own : List (Str × Nat)} {cpos : Pos} (hc : X.calm = true) (hN : X.N.Nodup) (hi : PMI X B W tg iter mi) (ok : BlkOk X.N X.env.scope scope own) (hv : ∀ i ∈ is, i ∈ own.map (·.2))
    (hg : ∀ (s : Shared) (H : Hp) (C : Addr) (cl : List (Str × Addr)) (fp : List Addr) (B' : Bs), PMG (X.blk s H scope (compEnvC scope cl C X.env) fp) B' is tg mg)
    (he : ∀ (s : Shared) (H : Hp) (C : Addr) (cl : List (Str × Addr)) (fp : List Addr) (B' : Bs), PM (X.blk s H scope (compEnvC scope cl C X.env) fp) B' W0 elt me)
    (hsw : swapsWith (.ListComp elt [⟨tg, iter, [], 0⟩] scope cpos) (some (.Name y py)) pos.line X.env = pure true) (hy : X.N[i]? = some y := by rfl) (hyl : X.env.scope.names.lookup y = some .local := by rfl) (hs : ∀ x, foldedSetIterable iter X.env x = pure x := by intro _; rfl) :
    PMS X B W (.Assign [.Name y py] (.ListComp elt [⟨tg, iter, [], 0⟩] scope cpos) pos) (mSet i (mComp (own.map (·.2)) mi mg mYes me)) := by
  have hg' : ∀ (s : Shared) (H : Hp) (C : Addr) (cl : List (Str × Addr)) (fp : List Addr), PG (X.blk s H scope (compEnvC scope cl C X.env) fp) tg (fun v σ H Q => ∃ B', rdG X.K B' is mg v σ H Q) :=
    fun s H C cl fp => ⟨fun pins s' σ H' v u Q I r ⟨B', q⟩ => (hg s H C cl fp B').run pins s' σ H' v u Q I r q⟩
  have he' : ∀ (s : Shared) (H : Hp) (C : Addr) (cl : List (Str × Addr)) (fp : List Addr), PE (X.blk s H scope (compEnvC scope cl C X.env) fp) elt (fun σ H Q => ∃ B', rdE X.K B' W0 me σ H Q) :=
    fun s H C cl fp => ⟨fun pins s' σ H' Q I ⟨B', q⟩ => (he s H C cl fp B').run pins s' σ H' Q I q⟩
  refine impS (ps_setLc hc hN hy hyl hsw hi ok hg' (fun _ _ _ _ _ => pts_nil) he' hs) fun D σ H h => ?_
  have h' := rd_set (te := rdE X.K B W (mComp (own.map (·.2)) mi mg mYes me)) D σ H h
  refine rd_comp hv _ _ _ _ (fun _ _ _ z => z) (fun B' _ _ _ _ z => ⟨B', z⟩) (fun B' σ H Q z => ?_) (fun B' _ _ _ z => ⟨B', z⟩) σ H _ (rdN_of (rdF_of h'))
  obtain ⟨g, s, Qd, E, R, hm, hk, hx⟩ := z
  exact hk g s H true (Gx.refl _) R hm
theorem pms_setLcIf (i : Nat) {y : Str} {py : Pos} {scope : Scope} {own : List (Str × Nat)} {cpos : Pos} {tc : M Bool} (hc : X.calm = true) (hN : X.N.Nodup) (hi : PMI X B W tg iter mi) (ok : BlkOk X.N X.env.scope scope own) (hv : ∀ i ∈ is, i ∈ own.map (·.2))
    (hg : ∀ (s : Shared) (H : Hp) (C : Addr) (cl : List (Str × Addr)) (fp : List Addr) (B' : Bs), PMG (X.blk s H scope (compEnvC scope cl C X.env) fp) B' is tg mg)
    (ht : ∀ (s : Shared) (H : Hp) (C : Addr) (cl : List (Str × Addr)) (fp : List Addr) (B' : Bs), PMT (X.blk s H scope (compEnvC scope cl C X.env) fp) B' W0 c tc)
    (he : ∀ (s : Shared) (H : Hp) (C : Addr) (cl : List (Str × Addr)) (fp : List Addr) (B' : Bs), PM (X.blk s H scope (compEnvC scope cl C X.env) fp) B' W0 elt me)
    (hsw : swapsWith (.ListComp elt [⟨tg, iter, [c], 0⟩] scope cpos) (some (.Name y py)) pos.line X.env = pure true) (hy : X.N[i]? = some y := by rfl) (hyl : X.env.scope.names.lookup y = some .local := by rfl) (hs : ∀ x, foldedSetIterable iter X.env x = pure x := by intro _; rfl) :
    PMS X B W (.Assign [.Name y py] (.ListComp elt [⟨tg, iter, [c], 0⟩] scope cpos) pos) (mSet i (mComp (own.map (·.2)) mi mg tc me)) := by
  have hg' : ∀ (s : Shared) (H : Hp) (C : Addr) (cl : List (Str × Addr)) (fp : List Addr), PG (X.blk s H scope (compEnvC scope cl C X.env) fp) tg (fun v σ H Q => ∃ B', rdG X.K B' is mg v σ H Q) :=
    fun s H C cl fp => ⟨fun pins s' σ H' v u Q I r ⟨B', q⟩ => (hg s H C cl fp B').run pins s' σ H' v u Q I r q⟩
  have ht' : ∀ (s : Shared) (H : Hp) (C : Addr) (cl : List (Str × Addr)) (fp : List Addr), PT (X.blk s H scope (compEnvC scope cl C X.env) fp) c (fun σ H Q => ∃ B', rdT X.K B' W0 tc σ H Q) :=
    fun s H C cl fp => ⟨fun pins s' σ H' Q I ⟨B', q⟩ => (ht s H C cl fp B').run pins s' σ H' Q I q⟩
  have he' : ∀ (s : Shared) (H : Hp) (C : Addr) (cl : List (Str × Addr)) (fp : List Addr), PE (X.blk s H scope (compEnvC scope cl C X.env) fp) elt (fun σ H Q => ∃ B', rdE X.K B' W0 me σ H Q) :=
    fun s H C cl fp => ⟨fun pins s' σ H' Q I ⟨B', q⟩ => (he s H C cl fp B').run pins s' σ H' Q I q⟩
  refine impS (ps_setLc hc hN hy hyl hsw hi ok hg' (fun s H C cl fp => pts_one (ht' s H C cl fp)) he' hs) fun D σ H h => ?_
  have h' := rd_set (te := rdE X.K B W (mComp (own.map (·.2)) mi mg tc me)) D σ H h
  exact rd_comp hv _ _ _ _ (fun _ _ _ z => z) (fun B' _ _ _ _ z => ⟨B', z⟩) (fun B' _ _ _ z => ⟨B', z⟩) (fun B' _ _ _ z => ⟨B', z⟩) σ H _ (rdN_of (rdF_of h'))
end
end VL
namespace VL
open PySem L2
section
variable {X : Cx} {B : Bs} {W : WX} {a b c : Expr} {ma mb mc me : M D} {p pos : Pos}
/-- one comparison as a test -/
def mTst (m : M D) : M Bool := fun s Q E => m s (fun d s' => ∃ k, d = .bl k ∧ Q k s') E
theorem pt_cmpV {op : CmpOp} {r : R2} {f : D → D → (D → Prop) → Prop} (ho : OpR X (compareOp op) r) (hv : OpV X.K r f) (ha : PM X B W a ma) (hb : PM X B W b mb) (hm : behindInMarks op b = false) : PMT X B W (.Compare a [op] [b] pos) (mTst (mOp f ma mb)) := by
  refine impT (pt_cmpR ho ha hb hm) fun σ H Q h => ?_
  obtain ⟨g, s, Qd, E, R, hm, hk, hx⟩ := h
  refine rd_op hv σ H _ ⟨g, s, fun d s' => ∃ k, d = .bl k ∧ Qd k s', E, R, hm, fun g1 s1 H1 v d x1 R1 dv q => ?_, hx⟩
  obtain ⟨k, rfl, q⟩ := q
  exact ⟨k, dv.of_b, hk g1 s1 H1 k x1 R1 q⟩
theorem pt_eq (hu : X.A.units + 64 < cLine) (ha : PM X B W a ma) (hb : PM X B W b mb) : PMT X B W (.Compare a [.Eq] [b] pos) (mTst (mOp eqP ma mb)) :=
  pt_cmpV (OpR.or op_eq (op_eqD hu)) (OpV.or opv_eqS opv_eqD fun _ _ _ h => eqD_or h) ha hb (nomark _)
theorem pt_ne (hu : X.A.units + 64 < cLine) (ha : PM X B W a ma) (hb : PM X B W b mb) : PMT X B W (.Compare a [.NotEq] [b] pos) (mTst (mOp neP ma mb)) :=
  pt_cmpV (OpR.or op_ne (op_neD hu)) (OpV.or opv_neS opv_neD fun _ _ _ h => eqD_or h) ha hb (nomark _)
theorem pt_lt (ha : PM X B W a ma) (hb : PM X B W b mb) : PMT X B W (.Compare a [.Lt] [b] pos) (mTst (mOp (ordD (fun i j => decide (i < j)) sLt) ma mb)) :=
  pt_cmpV (OpR.or op_lt op_lt_str) (OpV.or (opv_I0 fun _ _ _ => DV.b) opv_OS fun _ _ _ h => ordD_or h) ha hb (nomark _)
theorem pt_gt (ha : PM X B W a ma) (hb : PM X B W b mb) : PMT X B W (.Compare a [.Gt] [b] pos) (mTst (mOp (ordD (fun i j => decide (j < i)) fun x y => sLt y x) ma mb)) :=
  pt_cmpV (OpR.or op_gt op_gt_str) (OpV.or (opv_I0 fun _ _ _ => DV.b) opv_OS fun _ _ _ h => ordD_or h) ha hb (nomark _)
theorem pt_ge (ha : PM X B W a ma) (hb : PM X B W b mb) : PMT X B W (.Compare a [.GtE] [b] pos) (mTst (mOp (ordD (fun i j => decide (j ≤ i)) fun x y => !sLt x y) ma mb)) :=
  pt_cmpV (OpR.or op_ge op_ge_str) (OpV.or (opv_I0 fun _ _ _ => DV.b) opv_OS fun _ _ _ h => ordD_or h) ha hb (nomark _)
theorem pt_in (ha : PM X B W a ma) (hb : PM X B W b mb) (hm : behindInMarks .In b = false := by rfl) : PMT X B W (.Compare a [.In] [b] pos) (mTst (mOp (inD false) ma mb)) :=
  pt_cmpV (OpR.or op_in_seq op_in_sign) (OpV.or opv_inQ opv_inS fun _ _ _ h => inD_or h) ha hb hm
theorem pt_nin (ha : PM X B W a ma) (hb : PM X B W b mb) (hm : behindInMarks .NotIn b = false := by rfl) : PMT X B W (.Compare a [.NotIn] [b] pos) (mTst (mOp (inD true) ma mb)) :=
  pt_cmpV (OpR.or op_notIn_seq op_notIn_sign) (OpV.or opv_inQ opv_niS fun _ _ _ h => inD_or h) ha hb hm
theorem pt_is (ha : PM X B W a ma) (hb : PM X B W b mb) : PMT X B W (.Compare a [.Is] [b] pos) (mTst (mOp (isD false) ma mb)) := by
  refine pt_cmpV (OpR.or op_isN op_is_bl) (OpV.or ?_ ?_ fun _ _ _ h => isD_or h) ha hb (nomark _)
  · intro g H n d1 d2 x y Qd Qv ok h1 h2 hf hk
    obtain ⟨rfl, q⟩ := hf
    exact ⟨h2.of_n, hk g H _ _ (Ext.refl _ _) ok (by rw [non_V h1]; simpa using DV.b) q⟩
  · intro g H n d1 d2 x y Qd Qv ok h1 h2 hf hk
    obtain ⟨i, j, rfl, rfl, q⟩ := hf
    exact ⟨i, j, h1.of_b, h2.of_b, hk g H _ _ (Ext.refl _ _) ok (by rw [dec_beq]; simpa using DV.b) q⟩
theorem pt_isnot (ha : PM X B W a ma) (hb : PM X B W b mb) : PMT X B W (.Compare a [.IsNot] [b] pos) (mTst (mOp (isD true) ma mb)) := by
  refine pt_cmpV (OpR.or op_notN op_isnot_bl) (OpV.or ?_ ?_ fun _ _ _ h => isD_or h) ha hb (nomark _)
  · intro g H n d1 d2 x y Qd Qv ok h1 h2 hf hk
    obtain ⟨rfl, q⟩ := hf
    exact ⟨h2.of_n, hk g H _ _ (Ext.refl _ _) ok (by rw [non_V h1]; simpa using DV.b) q⟩
  · intro g H n d1 d2 x y Qd Qv ok h1 h2 hf hk
    obtain ⟨i, j, rfl, rfl, q⟩ := hf
    exact ⟨i, j, h1.of_b, h2.of_b, hk g H _ _ (Ext.refl _ _) ok (by rw [dec_beq]; simpa using DV.b) q⟩
end
end VL
namespace VL
open PySem L2
def TrueK (s : Shared) : Result → Shared → Prop := fun r t => r = .ok (.ret (.bool true)) ∧ OldK s.heap t.heap ∧ t.os = s.os ∧ PyProof.Rows.AllBare t.gens
/-- the heap but for the tables of code -/
def strip (H : Hp) : Hp := fun a => match H a with
  | some (.tbl _) => none
  | o => o
theorem strip_of {H : Hp} {a : Addr} {o : HO} (h : H a = some o) (n : NT o) : strip H a = some o := by
  unfold strip
  rw [h]
  cases o <;> first | rfl | exact (n _ rfl).elim
theorem strip_sub (H : Hp) : Same (strip H) H := fun a o e => by
  unfold strip at e
  split at e
  · cases e
  · exact e
theorem strip_nt {H : Hp} {a : Addr} {o : HO} (e : strip H a = some o) : NT o := by
  unfold strip at e
  split at e
  · cases e
  · rename_i h
    rintro ps rfl
    exact h ps e
theorem strip_seq {K : PySem.W.Frag} {H : Hp} {a : Addr} {vs : List V} (h : SqL K H a vs) : SqL K (strip H) a vs := by
  rcases h with (h | ⟨o, h⟩) | h
  · exact .inl (.inl (strip_of h fun _ z => nomatch z))
  · exact .inl (.inr ⟨o, strip_of h fun _ z => nomatch z⟩)
  · exact .inr h
/-- all of the heap as data -/
abbrev gA (K : PySem.W.Frag) (H : Hp) : Gh := ⟨strip H, none, TabsOf K, [], K⟩
theorem nzA {K : PySem.W.Frag} {H : Hp} {a : Addr} : ¬ zone (gA K H) a := fun z => by
  rcases z with ⟨_, z, _⟩ | ⟨i, z⟩
  · cases z
  · simp at z
theorem memA {K : PySem.W.Frag} {H : Hp} : MemOk (gA K H) H [] := ⟨rfl, fun i c a f z => by simp at z, fun i j a z => by simp at z, fun a ⟨i, z⟩ => by simp at z⟩
theorem okA {K : PySem.W.Frag} (H : Hp) : GhOk (gA K H) H m0 := ⟨strip_sub H, fun _ _ z => strip_nt z, fun _ z => (nomatch z), fun _ z => (nzA z).elim, memA⟩
/-- the law's promise at the top -/
theorem sp_top {K : PySem.W.Frag} {F : FT} {ns : List Int} {H : Hp} {a : Addr} (ht : LamX.Tabs (TabsOf K) H) (hS : SqL K H a (ns.map V.int)) (hf : ∀ Q E, (∀ n, Q (.bl true) n) → F [.scr ns] m0 Q E) : spOf K 1 F [.ref a] H (fun v _ => v = .bl true) fun _ _ _ => False := by
  refine ⟨rfl, gA K H, m0, [.scr ns], fun d _ => d = .bl true, fun _ _ => False, ⟨rfl, rfl, ht⟩, okA H, .cons ?_ .nil, hf _ _ fun _ => rfl, ?_, fun _ _ _ _ _ _ _ _ _ z => z⟩
  · simp only [DV]
    exact ⟨a, rfl, strip_seq hS⟩
  · rintro g' H' n' v d _ _ dv rfl
    exact dv.of_b
end VL
namespace VL
open PySem L2
def exE (K : PySem.W.Frag) (m : M D) : TE := fun σ H Q => ∃ B, rdE K B W0 m σ H Q
def exT (K : PySem.W.Frag) (m : M Bool) : TT := fun σ H Q => ∃ B, rdT K B W0 m σ H Q
def exS (K : PySem.W.Frag) (m : MS) : TS := fun Dn σ H => ∃ B, rdS K B W0 m Dn σ H
section
variable {X : Cx} {a : Expr} {st : Stmt} {sts : List Stmt}
theorem pe_ex {m : M D} (h : ∀ B, PM X B W0 a m) : PE X a (exE X.K m) := ⟨fun pins s σ H Q I ⟨B, q⟩ => (h B).run pins s σ H Q I q⟩
theorem pt_ex {m : M Bool} (h : ∀ B, PMT X B W0 a m) : PT X a (exT X.K m) := ⟨fun pins s σ H Q I ⟨B, q⟩ => (h B).run pins s σ H Q I q⟩
theorem ps_ex {m : MS} (h : ∀ B, PMS X B W0 st m) : PS X st (exS X.K m) := ⟨fun pins s σ H Q I ⟨B, q⟩ => (h B).run pins s σ H Q I q⟩
theorem pss_ex {m : MS} (h : ∀ B, PMSs X B W0 sts m) : PSs X sts (exS X.K m) := ⟨fun pins s σ H Q I ⟨B, q⟩ => (h B).run pins s σ H Q I q⟩
end
abbrev bA (K : PySem.W.Frag) (H : Hp) : Bs := ⟨gA K H, H, none, none⟩
def noOwn : List Slot → Bool
  | [] => true
  | .own _ :: _ => false
  | _ :: r => noOwn r
theorem noOwn_at : ∀ {e : List Slot} {i : Nat} {c : OC}, noOwn e = true → e[i]? ≠ some (.own c)
  | [], _, _, _ => by simp
  | .un :: r, 0, _, _ => by simp
  | .dat _ :: r, 0, _, _ => by simp
  | .own _ :: r, _, _, h => by cases h
  | .un :: r, i + 1, _, h => by simpa using noOwn_at (e := r) (i := i) h
  | .dat _ :: r, i + 1, _, h => by simpa using noOwn_at (e := r) (i := i) h
section
variable {K : PySem.W.Frag} {σ σ' : L2.St} {H H' : Hp} {e e' : List Slot}
theorem relA (ht : LamX.Tabs (TabsOf K) H) (len : e.length = σ.length) (no : noOwn e = true) (h : ∀ (i : Nat) (d : D), e[i]? = some (.dat d) → ∃ v, σ[i]? = some (some v) ∧ DV K (gA K H) d v) : Rel K (bA K H) (gA K H) ⟨e, m0⟩ σ H where
  gh := okA H
  ext := Ext.refl _ _
  len := len
  sl := fun i sl o h1 h2 => by
    cases sl with
    | un => trivial
    | dat d =>
      obtain ⟨v, e1, e2⟩ := h i d h1
      rw [h2] at e1
      cases e1
      exact ⟨v, rfl, e2⟩
    | own c => exact (noOwn_at no h1).elim
  ap := fun i j xs ys h1 => (noOwn_at no h1).elim
  me := fun _ _ z => (nomatch z)
  px := fun _ z => (nomatch z)
  tb := ⟨rfl, rfl, ht⟩
theorem gx_all {g : Gh} (ok : GhOk g H m0) : Gx g (gA K H) := ⟨fun b o e => strip_of (ok.sub b o e) (ok.nt b o e), (fun z e => by
  have := (ok.dr z e).2
  dsimp only at this
  omega), fun i a f z => by
  have h0 : g.L = [] := List.length_eq_zero_iff.mp ok.mem.len
  rw [h0] at z
  simp at z⟩
/-- all is still there, but the tables may have grown -/
structure Sm (K : PySem.W.Frag) (H H' : Hp) : Prop where
  keep : ∀ a o, H a = some o → NT o → H' a = some o
  tb : LamX.Tabs (TabsOf K) H → LamX.Tabs (TabsOf K) H'
  th : ∀ a o, H a = some o → ∃ o', H' a = some o'
theorem Sm.of {g' : Gh} (x : Ext (gA K H) H g' H') : Sm K H H' := ⟨fun a o e n => x.keep a o e nzA n, x.tb.2, x.th⟩
theorem Sm.s (s : Same H H') : Sm K H H' := ⟨fun a o e _ => s a o e, fun t => t.ext s, fun a o e => ⟨o, s a o e⟩⟩
theorem Sm.refl (H : Hp) : Sm K H H := Sm.s (Same.refl H)
/-- at rest again -/
theorem Rel.all {B : Bs} {g : Gh} (R : Rel K B g ⟨e, m0⟩ σ H) (no : noOwn e = true) : Rel K (bA K H) (gA K H) ⟨e, m0⟩ σ H := by
  refine relA R.tb.s R.len no fun i d h => ?_
  obtain ⟨v, e1, e2⟩ := R.dat h
  exact ⟨v, e1, e2.mono (gx_all R.gh)⟩
theorem useE {m : M D} {Qv : VK} {Qd : D → Prop} (R : Rel K (bA K H) (gA K H) ⟨e, m0⟩ σ H) (hm : m ⟨e, m0⟩ (fun d s' => s'.n = m0 ∧ Qd d) fun _ _ => False) (hk : ∀ H' v d, Sm K H H' → DV K (gA K H') d v → Qd d → Qv v H') : exE K m σ H Qv := by
  refine ⟨bA K H, gA K H, _, _, _, R, hm, fun g' s' H' v d x R' dv q => ?_, fun _ _ _ _ _ _ _ _ _ z => z⟩
  obtain ⟨e1, n1⟩ := s'
  obtain ⟨rfl, q⟩ : n1 = m0 ∧ Qd d := q
  exact hk H' v d (Sm.of R'.ext) (dv.mono (gx_all R'.gh)) q
theorem useT {m : M Bool} {Qv : Bool → Hp → Prop} {Qd : Bool → Prop} (R : Rel K (bA K H) (gA K H) ⟨e, m0⟩ σ H) (hm : m ⟨e, m0⟩ (fun d s' => s'.n = m0 ∧ Qd d) fun _ _ => False) (hk : ∀ H' b, Sm K H H' → Qd b → Qv b H') : exT K m σ H Qv := by
  refine ⟨bA K H, gA K H, _, _, _, R, hm, fun g' s' H' b x R' q => ?_, fun _ _ _ _ _ _ _ _ _ z => z⟩
  exact hk H' b (Sm.of R'.ext) q.2
theorem useS {m : MS} {Dn : Ends} {Nx : List Slot → Prop} {Rt : D → Prop} (R : Rel K (bA K H) (gA K H) ⟨e, m0⟩ σ H) (hm : m ⟨e, m0⟩ ⟨fun s' => s'.n = m0 ∧ noOwn s'.e = true ∧ Nx s'.e, fun d n' => n' = m0 ∧ Rt d, fun _ => False, fun _ => False, fun _ _ => False⟩)
    (hn : ∀ H' σ' e', Sm K H H' → Rel K (bA K H') (gA K H') ⟨e', m0⟩ σ' H' → Nx e' → Dn.nx σ' H') (hr : ∀ H' v d, Sm K H H' → DV K (gA K H') d v → Rt d → Dn.rt v H') : exS K m Dn σ H := by
  refine ⟨bA K H, gA K H, _, _, R, hm, ⟨fun g' s' σ' H' x R' q => ?_, fun g' n' H' v d x e' ok dv q => ?_, fun _ _ _ _ _ _ z => z.elim, fun _ _ _ _ _ _ z => z.elim, fun _ _ _ _ _ _ _ _ _ _ z => z.elim⟩⟩
  · obtain ⟨e1, n1⟩ := s'
    obtain ⟨rfl, no, q⟩ : n1 = m0 ∧ noOwn e1 = true ∧ Nx e1 := q
    exact hn H' σ' e1 (Sm.of R'.ext) (R'.all no) q
  · obtain ⟨rfl, q⟩ : n' = m0 ∧ Rt d := q
    exact hr H' v d (Sm.of e') (dv.mono (gx_all ok)) q
end
theorem DVk.get {K : PySem.W.Frag} {g : Gh} {k : Key} {d : D} : ∀ {fs : List (Key × D)} {ws : List (Key × V)}, DVk K g fs ws → (fs.find? fun q => decide (q.1 = k)).map (·.2) = some d → ∃ v, valV ws k = some v ∧ DV K g d v
  | [], _, _, e => by cases e
  | (k', d') :: fs, ws, h, e => by
    simp only [DVk] at h
    obtain ⟨v, r, rfl, h1, h2⟩ := h
    rw [List.find?_cons] at e
    by_cases q : k' = k
    · simp only [decide_eq_true q, Option.map_some, Option.some.injEq] at e
      subst e
      exact ⟨v, by unfold valV; rw [List.find?_cons]; simp [q], h1⟩
    · simp only [decide_eq_false q] at e
      obtain ⟨u, e1, e2⟩ := DVk.get h2 e
      refine ⟨u, ?_, e2⟩
      unfold valV at e1 ⊢
      rw [List.find?_cons]
      simp only [decide_eq_false q]
      exact e1
def dgetD : D → D → (D → Prop) → Prop
  | .dct kvs, .str x, Q => ∃ d, (kvs.find? fun q => decide (q.1 = Sum.inr x)).map (·.2) = some d ∧ Q d
  | _, _, _ => False
theorem pm_dget {X : Cx} {B : Bs} {W : WX} {a b : Expr} {ma mb : M D} {pos : Pos} (hu : X.A.units + 1 < cLine) (ha : PM X B W a ma) (hb : PM X B W b mb) (hs : NoSl b := by intro _ _; rfl) : PM X B W (.Subscript a b pos) (mOp dgetD ma mb) := by
  refine impE (pe_dget hu ha hb hs) fun σ H Q h => ?_
  obtain ⟨g, s, Qd, E, R, hm, hk, hx⟩ := h
  refine ⟨g, s, _, E, R, hm, fun g1 s1 H1 x d1 x1 R1 dx q1 => ?_, hx⟩
  refine ⟨g1, s1, _, E, R1, q1, fun g2 s2 H2 y d2 x2 R2 dy q2 => ?_, hx.mono x1⟩
  unfold dgetD at q2
  split at q2
  · rename_i kvs z
    obtain ⟨d, e, q⟩ := q2
    have dx2 := dx.mono x2
    simp only [DV] at dx2
    obtain ⟨p, ws, rfl, e1, e2⟩ := dx2
    obtain ⟨v, e3, e4⟩ := e2.get e
    rw [dy.of_s]
    refine ⟨p, v, rfl, ?_, hk g2 s2 H2 v d (x1.trans x2) R2 e4 q⟩
    rw [← e3]
    exact DGet.k (k := Sum.inr z) (R2.gh.sub _ _ e1)
  · exact q2.elim
theorem goods_ints : ∀ ls : List Int, goods (ls.map D.int) = true
  | [] => rfl
  | _ :: r => by simp only [List.map_cons, goods, good, goods_ints r]; rfl
theorem depth_ints : ∀ ls : List Int, PyData.depthAll (pys (ls.map D.int)) = 0
  | [] => rfl
  | _ :: r => by simp only [List.map_cons, pys, py, PyData.depthAll, PyData.depth, depth_ints r]; rfl
theorem deep_ints (ls : List Int) : deepOk (.lst (ls.map D.int)) = true := by
  simp only [deepOk, good, goods_ints, py, PyData.depth, depth_ints]
  rfl
theorem eqv_nil (ds : List D) : PyData.eqv (py (.lst ds)) (py (.lst [])) = ds.isEmpty := by
  cases ds with
  | nil => rfl
  | cons d ds => simp only [py, pys, PyData.eqv, PyData.eqvAll, List.isEmpty_cons]
theorem ne_ints {ls : List Int} {Q : D → Prop} (h : Q (.bl (!ls.isEmpty))) : neP (.lst (ls.map D.int)) (.lst []) Q := by
  refine ⟨⟨deep_ints ls, by decide⟩, ?_⟩
  rw [eqv_nil]
  simpa using h
structure St0 (K : PySem.W.Frag) (g0 : Gh) (H0 : Hp) (hm : List Cell) (z : Dr) (H : Hp) : Prop where
  t0 : TbOk K g0 H0
  ex : ∃ g, Ext g0 H0 g H ∧ GhOk g H ⟨z.n + 1, hm⟩ ∧ g.r = some z
theorem Ext.same {K : PySem.W.Frag} {g0 g : Gh} {H0 H H' : Hp} (t0 : TbOk K g0 H0) (x : Ext g0 H0 g H) (s : Sm K H H') : Ext g0 H0 g H' :=
  ⟨x.sG, fun a o h hz ht => s.keep _ _ (x.keep a o h hz ht) ht, ⟨x.tb.1, fun t => by
    rw [t0.1] at t ⊢
    have := x.tb.2
    rw [t0.1] at this
    exact s.tb (this t)⟩, x.out, fun a o h => by
    obtain ⟨o', e⟩ := x.th a o h
    exact s.th _ _ e, x.am, x.zn, x.lc⟩
theorem DrOk.same {K : PySem.W.Frag} {z : Dr} {H H' : Hp} (x : DrOk z H) (s : Sm K H H') : DrOk z H' :=
  ⟨s.keep _ _ x.m fun _ z => (nomatch z), s.keep _ _ x.c fun _ z => (nomatch z), s.keep _ _ x.l fun _ z => (nomatch z), x.ne, x.bits, x.clen, x.pos, x.llen⟩
theorem DrOk.atz {z : Dr} {H : Hp} (x : DrOk z H) {a : Addr} (q : dzone z a) : ∃ o, H a = some o ∧ NT o ∧ ∀ b s, o ≠ LamX.CodeO b s := by
  rcases q with q | q | q
  · rw [q]; exact ⟨_, x.m, fun _ z => (nomatch z), fun _ _ z => (nomatch z)⟩
  · rw [q]; exact ⟨_, x.c, fun _ z => (nomatch z), fun _ _ z => (nomatch z)⟩
  · rw [q]; exact ⟨_, x.l, fun _ z => (nomatch z), fun _ _ z => (nomatch z)⟩
theorem GhOk.same {K : PySem.W.Frag} {g : Gh} {H H' : Hp} {n : Ms} (x : GhOk g H n) (s : Sm K H H') : GhOk g H' n :=
  ⟨fun b u e => s.keep b u (x.sub b u e) (x.nt b u e), x.nt, fun z e => ⟨(x.dr z e).1.same s, (x.dr z e).2⟩, x.off, x.mem.keep (Gx.refl _) rfl rfl x.mem.dz fun a o _ e n => s.keep a o e n⟩
theorem St0.same {K : PySem.W.Frag} {hm : List Cell} {g0 : Gh} {H0 H H' : Hp} {z : Dr} (x : St0 K g0 H0 hm z H) (s : Sm K H H') : St0 K g0 H0 hm z H' := by
  obtain ⟨g, h1, h2, h3⟩ := x.ex
  exact ⟨x.t0, g, Ext.same x.t0 h1 s, h2.same s, h3⟩
theorem St0.dr {K : PySem.W.Frag} {hm : List Cell} {g0 : Gh} {H0 H : Hp} {z : Dr} (x : St0 K g0 H0 hm z H) : DrOk z H := by
  obtain ⟨g, h1, h2, h3⟩ := x.ex
  exact (h2.dr z h3).1
theorem St0.tab {K : PySem.W.Frag} {hm : List Cell} {g0 : Gh} {H0 H : Hp} {z : Dr} (x : St0 K g0 H0 hm z H) : LamX.Tabs (TabsOf K) H := by
  obtain ⟨g, h1, h2, h3⟩ := x.ex
  exact (x.t0.step h1).s
/-- one object of the zone is written -/
theorem St0.upd {K : PySem.W.Frag} {hm : List Cell} {g0 : Gh} {H0 H H1 : Hp} {z z1 : Dr} {a : Addr} {o : HO} (x : St0 K g0 H0 hm z H) (s1 : Sm K H H1) (ha : dzone z a) (em : z1.am = z.am) (ok : DrOk z1 (upd H1 a o))
    (hz : ∀ b, dzone z1 b → dzone z b ∨ H b = none) : St0 K g0 H0 hm z1 (upd H1 a o) := by
  obtain ⟨g, h1, h2, h3⟩ := x.ex
  have za : zone g a := .inl ⟨z, h3, ha⟩
  have ga : g.G a = none := h2.off a za
  have hzz : ∀ b, zone ⟨g.G, some z1, g.T, g.L, g.K⟩ b → zone g b ∨ H b = none := fun b zb => by
    rcases zb with ⟨z', e, q⟩ | q
    · cases e
      rcases hz b q with y | y
      · exact .inl (.inl ⟨z, h3, y⟩)
      · exact .inr y
    · exact .inl (.inr q)
  refine ⟨x.t0, ⟨g.G, some z1, g.T, g.L, g.K⟩, ⟨h1.sG, fun b u e nz nt => ?_, ⟨h1.tb.1, fun t => ?_⟩, h1.out, fun b u e => ?_, fun y e => ?_, fun b zb => ?_, h1.lc⟩, ⟨fun b u e => ?_, h2.nt, fun y e => ?_, fun b zb => ?_, ?_⟩, rfl⟩
  · have nb : b ≠ a := fun q => by
      rcases h1.zn a za with y | y
      · exact nz (q ▸ y)
      · rw [q, y] at e
        cases e
    rw [upd_ne nb]
    exact s1.keep _ _ (h1.keep b u e nz nt) nt
  · obtain ⟨o1, k1, k2, k3⟩ := (x.dr.same s1).atz ha
    rw [x.t0.1] at t ⊢
    have := h1.tb.2
    rw [x.t0.1] at this
    exact tab_chg k1 k2 k3 _ (s1.tb (this t))
  · obtain ⟨u', e'⟩ := h1.th b u e
    by_cases q : b = a
    · exact ⟨o, by rw [q, upd_same]⟩
    · obtain ⟨u2, e2⟩ := s1.th _ _ e'
      exact ⟨u2, by rw [upd_ne q]; exact e2⟩
  · obtain ⟨y', e1, e2⟩ := h1.am y e
    rw [h3] at e1
    cases e1
    exact ⟨z1, rfl, em.trans e2⟩
  · rcases hzz b zb with y | y
    · exact h1.zn b y
    · right
      cases e : H0 b with
      | none => rfl
      | some u =>
        obtain ⟨u', e'⟩ := h1.th b u e
        rw [y] at e'
        cases e'
  · have nb : b ≠ a := fun q => by
      have e' : g.G b = some u := e
      rw [q, ga] at e'
      cases e'
    rw [upd_ne nb]
    exact s1.keep _ _ (h2.sub b u e) (h2.nt b u e)
  · cases e
    exact ⟨ok, rfl⟩
  · rcases hzz b zb with y | y
    · exact h2.off b y
    · exact h2.sub.free y
  · refine h2.mem.keep (g' := ⟨g.G, some z1, g.T, g.L, g.K⟩) ⟨Same.refl _, fun y e => ⟨z1, rfl, ?_⟩, Lx.refl g⟩ rfl rfl (fun b l y e q => ?_) fun b u l e nt => ?_
    · rw [h3] at e
      cases e
      exact em
    · cases e
      rcases hz b q with y | y
      · exact h2.mem.dz b l z h3 y
      · obtain ⟨o', ho, _⟩ := h2.mem.there l
        rw [y] at ho
        cases ho
    · have nb : b ≠ a := fun q => h2.mem.dz b l z h3 (q ▸ ha)
      rw [upd_ne nb]
      exact s1.keep _ _ e nt
def drD (z : Dr) : D := .dct [(.inr "cells", .lst (z.cs.map .int)), (.inr "left", .lst (z.ls.map .int)), (.inr "at", .int (z.n : Int))]
theorem DrOk.dv {K : PySem.W.Frag} {z : Dr} {H : Hp} (x : DrOk z H) : DV K (gA K H) (drD z) (.ref z.am) := by
  simp only [drD, DV, DVk]
  refine ⟨z.am, _, rfl, strip_of x.m fun _ z => (nomatch z), .ref z.ac, _, rfl, ⟨z.ac, _, rfl, strip_of x.c fun _ z => (nomatch z), DVs.ints⟩, .ref z.al, _, rfl, ⟨z.al, _, rfl, strip_of x.l fun _ z => (nomatch z), DVs.ints⟩, _, [], rfl, rfl, rfl⟩
end VL
namespace VL
open PySem L2
def nL : M D := mOp dgetD (mVar 0) (mC (.str "left"))
def nNe : M Bool := mTst (mOp neP nL (mLst mNil))
def nW : M Bool := mAnd (mTst (mOp neP nL (mLst mNil))) (mTst (mOp eqP (mOp idxD nL (mC (.int 0))) (mC (.int 0))))
def nHead : M D := mOp idxD nL (mC (.int 0))
def nDiv : M D := mOp (dI CDivW fun i j => .int (i / j)) (mVar 6) (mVar 1)
def nMod : MS := mRet (mOp (dI (fun _ j => 0 < j) fun i j => .int (i % j)) (mB intD (mCons (mVar 6) mNil)) (mVar 1))
def nAt : M D := mOp addD (mOp dgetD (mVar 0) (mC (.str "at"))) (mC (.int 1))
def nCs : M D := mOp dgetD (mVar 0) (mC (.str "cells"))
def nEnd1 : MS := mSet 4 (mIf (mTst (mOp neP (mVar 3) (mLst mNil))) (mB intD (mCons (mOp idxD (mVar 3) (mOp (dI (fun _ j => 0 < j) fun i j => .int (i % j)) (mB intD (mCons (mOp addD (mOp mulD (mVar 2) (mVar 2)) (mOp (dI CDivW fun i j => .int (i / j)) (mVar 2) (mC (.int 2)))) mNil)) (mB lenD (mCons (mVar 3) mNil)))) mNil)) (mC (.int 5)))
def nEnd2 : MS := mSet 5 (mOp (dI (fun _ j => 0 < j) fun i j => .int (i % j)) (mB intD (mCons (mOp addD (mOp addD (mOp mulD (mVar 4) (mC (.int 40692))) (mOp mulD (mVar 2) (mC (.int 65539)))) (mOp mulD (mOp mulD (mC (.int 7001)) (mVar 2)) (mVar 2))) mNil)) (mC (.int 2147483399)))
def nEnd3 : MS := mRet (mOp (dI (fun _ j => 0 < j) fun i j => .int (i % j)) (mB intD (mCons (mOp (dI CDivW fun i j => .int (i / j)) (mOp (dI (fun _ j => 0 < j) fun i j => .int (i % j)) (mB intD (mCons (mOp addD (mOp mulD (mVar 5) (mC (.int 48271))) (mOp mulD (mC (.int 1013)) (mVar 2))) mNil)) (mC (.int 2147483647))) (mC (.int 13))) mNil)) (mVar 1))
def nEnd : MS := mSeq nEnd1 (mSeq nEnd2 nEnd3)
def tL : TE := tDGet (tVar 0) (tC (.str "left"))
def tTail (K : PySem.W.Frag) : TE := tSl (rSlL K) tL (tPart (tC (.int 1))) tNoPart
def t_next (K : PySem.W.Frag) : TS := tSeq (tWhile (exT K nW) (sDPut (tVar 0) (tC (.str "left")) (tTail K)))
  (tSeq (tIfS (exT K nNe) (tSeq (tAsg (exE K nHead) (gName 6)) (tSeq (tAsg (exE K nDiv) (gSub tL (tC (.int 0)) rSetL)) (exS K nMod))) tNext)
  (tSeq (tPar 2 3 (tCons (exE K nAt) (tCons (exE K nCs) tNil))) (tSeq (sDPut (tVar 0) (tC (.str "at")) (tVar 2)) (exS K nEnd))))
theorem k_cl : ¬ ((Sum.inr (Str.ofString "cells") : Key) = Sum.inr (Str.ofString "left")) := by decide +kernel
theorem k_ca : ¬ ((Sum.inr (Str.ofString "cells") : Key) = Sum.inr (Str.ofString "at")) := by decide +kernel
theorem k_la : ¬ ((Sum.inr (Str.ofString "left") : Key) = Sum.inr (Str.ofString "at")) := by decide +kernel
theorem get_l (z : Dr) {Q : D → Prop} (h : Q (.lst (z.ls.map .int))) : dgetD (drD z) (.str "left") Q := ⟨_, by simp only [List.find?_cons, k_cl, decide_false, decide_true, Option.map_some], h⟩
theorem get_c (z : Dr) {Q : D → Prop} (h : Q (.lst (z.cs.map .int))) : dgetD (drD z) (.str "cells") Q := ⟨_, by simp only [List.find?_cons, decide_true, Option.map_some], h⟩
theorem get_a (z : Dr) {Q : D → Prop} (h : Q (.int (z.n : Int))) : dgetD (drD z) (.str "at") Q := ⟨_, by simp only [List.find?_cons, k_ca, k_la, decide_false, decide_true, Option.map_some], h⟩
theorem atI0 {α : Type} (x : α) (r : List α) : atI (x :: r) 0 = some x := by
  unfold atI ixN
  rw [if_pos (Int.le_refl 0), if_pos (by simp)]
  rfl
theorem ixn0 {α : Type} (x : α) (r : List α) : ixN (x :: r).length 0 = some 0 := by
  unfold ixN
  rw [if_pos (Int.le_refl 0), if_pos (by simp)]
  rfl
theorem atI_some {α : Type} {xs : List α} {i : Int} (h0 : 0 ≤ i) (h1 : i < xs.length) : ∃ x, x ∈ xs ∧ atI xs i = some x := by
  have hl : i.toNat < xs.length := by omega
  refine ⟨xs[i.toNat], List.getElem_mem hl, ?_⟩
  unfold atI ixN
  rw [if_pos h0, if_pos h1]
  simp [hl]
theorem mul_s {i j : Int} {Q : D → Prop} (h : CMul i j) (q : Q (.int (i * j))) : mulD (.int i) (.int j) Q := ⟨h.ok, q⟩
theorem div_s {i j : Int} {Q : D → Prop} (h : 0 < j) (h2 : j < 2 ^ 60) (q : Q (.int (i / j))) : dI CDivW (fun i j => .int (i / j)) (.int i) (.int j) Q := by
  refine ⟨⟨h, ?_⟩, q⟩
  have hn : j.natAbs < 2 ^ 60 := by omega
  have := Nat.log2_lt (n := j.natAbs) (k := 60) (by omega)
  have := this.mpr hn
  omega
theorem mod_s {i j : Int} {Q : D → Prop} (h : 0 < j) (q : Q (.int (i % j))) : dI (fun _ j => 0 < j) (fun i j => .int (i % j)) (.int i) (.int j) Q := ⟨h, q⟩
theorem end_ok {k at_ : Int} {cs : List Int} (hk : 0 < k) (ha : 0 ≤ at_ ∧ at_ < 2 ^ 62) {nx : VS → Prop} : nEnd ⟨[.un, .dat (.int k), .dat (.int at_), .dat (.lst (cs.map .int)), .un, .un, .un], m0⟩
    ⟨nx, fun d n' => n' = m0 ∧ ∃ r, d = .int r ∧ 0 ≤ r ∧ r < k, fun _ => False, fun _ => False, fun _ _ => False⟩ := by
  have st2 : ∀ c : Int, mSeq nEnd2 nEnd3 ⟨[.un, .dat (.int k), .dat (.int at_), .dat (.lst (cs.map .int)), .dat (.int c), .un, .un], m0⟩ ⟨nx, fun d n' => n' = m0 ∧ ∃ r, d = .int r ∧ 0 ≤ r ∧ r < k, fun _ => False, fun _ => False, fun _ _ => False⟩ := by
    intro c
    simp only [mSeq, nEnd2, nEnd3, mSet, mRet, mOp, mB, mCons, mNil, mVar, mC, List.getElem?_cons_zero, List.getElem?_cons_succ, List.set_cons_zero, List.set_cons_succ, intD, addD]
    refine mul_s (.inr (by decide)) ?_
    refine mul_s (.inr (by decide)) ?_
    refine mul_s (.inl (by decide)) ?_
    refine mul_s (.inr ⟨by omega, by omega⟩) ?_
    refine mod_s (by decide) ?_
    refine mul_s (.inr (by decide)) ?_
    refine mul_s (.inl (by decide)) ?_
    refine mod_s (by decide) ?_
    refine div_s (by decide) (by decide) ?_
    refine mod_s hk ?_
    exact ⟨trivial, _, rfl, Int.emod_nonneg _ (by omega), Int.emod_lt_of_pos _ hk⟩
  refine ⟨Nat.zero_le _, ne_ints ⟨_, rfl, ?_⟩⟩
  cases cs with
  | nil => exact st2 5
  | cons c r =>
    have hl : (0 : Int) < ((List.map D.int (c :: r)).length : Nat) := by simp
    rw [if_pos (show (!(c :: r).isEmpty) = true from rfl)]
    simp only [mOp, mB, mCons, mNil, mVar, mC, List.getElem?_cons_zero, List.getElem?_cons_succ, intD, addD, lenD]
    refine mul_s (.inl ⟨by omega, by omega⟩) ?_
    refine div_s (by decide) (by decide) ?_
    refine mod_s hl ?_
    obtain ⟨x, hx, e⟩ := atI_some (xs := List.map D.int (c :: r)) (i := (at_ * at_ + at_ / 2) % ((List.map D.int (c :: r)).length : Nat)) (Int.emod_nonneg _ (by omega)) (Int.emod_lt_of_pos _ hl)
    obtain ⟨y, _, rfl⟩ := List.mem_map.mp hx
    exact ⟨_, e, st2 y⟩
section
variable {K : PySem.W.Frag} {g0 : Gh} {H0 H : Hp} {z0 z : Dr} {k : Int} {hm : List Cell}
abbrev sgN (m : Addr) (k : Int) : L2.St := [some (.ref m), some (.int k), none, none, none, none, none]
abbrev eN (z : Dr) (k : Int) : List Slot := [.dat (drD z), .dat (.int k), .un, .un, .un, .un, .un]
theorem relN (ht : LamX.Tabs (TabsOf K) H) (h : DrOk z H) : Rel K (bA K H) (gA K H) ⟨eN z k, m0⟩ (sgN z.am k) H := by
  refine relA ht rfl rfl fun i d e => ?_
  match i, e with
  | 0, e => cases e; exact ⟨_, rfl, h.dv⟩
  | 1, e => cases e; exact ⟨_, rfl, DV.i⟩
  | 2, e => cases e
  | 3, e => cases e
  | 4, e => cases e
  | 5, e => cases e
  | 6, e => cases e
  | n + 7, e => cases e
theorem val_l (z : Dr) : valV [(Sum.inr (Str.ofString "cells"), V.ref z.ac), (Sum.inr (Str.ofString "left"), V.ref z.al), (Sum.inr (Str.ofString "at"), V.int (z.n : Int))] (Sum.inr (Str.ofString "left") : Key) = some (.ref z.al) := by
  simp only [valV, List.find?_cons, k_cl, decide_false, decide_true, Option.map_some]
theorem use_L {σ : L2.St} {Qv : VK} (h : DrOk z H) (hs : σ[0]? = some (some (.ref z.am))) (q : Qv (.ref z.al) H) : tL σ H Qv := by
  refine ⟨_, hs, z.am, .ref z.al, rfl, ?_, q⟩
  rw [← val_l z]
  exact DGet.k (k := Sum.inr (Str.ofString "left")) h.m
theorem put_l (z : Dr) (p : Addr) : putK [(Sum.inr (Str.ofString "cells"), V.ref z.ac), (Sum.inr (Str.ofString "left"), V.ref z.al), (Sum.inr (Str.ofString "at"), V.int (z.n : Int))] (Sum.inr (Str.ofString "left") : Key) (.ref p)
    = [(Sum.inr (Str.ofString "cells"), V.ref z.ac), (Sum.inr (Str.ofString "left"), V.ref p), (Sum.inr (Str.ofString "at"), V.int (z.n : Int))] := by
  have n1 : ¬ ((Sum.inr (Str.ofString "at") : Key) = Sum.inr (Str.ofString "left")) := fun e => k_la e.symm
  simp only [putK, List.any_cons, decide_true, k_cl, decide_false, Bool.false_or, Bool.true_or, if_true, List.map_cons, List.map_nil, if_false, n1]
theorem put_a (z : Dr) (i : Int) : putK [(Sum.inr (Str.ofString "cells"), V.ref z.ac), (Sum.inr (Str.ofString "left"), V.ref z.al), (Sum.inr (Str.ofString "at"), V.int (z.n : Int))] (Sum.inr (Str.ofString "at") : Key) (.int i)
    = [(Sum.inr (Str.ofString "cells"), V.ref z.ac), (Sum.inr (Str.ofString "left"), V.ref z.al), (Sum.inr (Str.ofString "at"), V.int i)] := by
  simp only [putK, List.any_cons, decide_true, k_ca, k_la, decide_false, Bool.false_or, Bool.true_or, if_true, List.map_cons, List.map_nil, if_false]
theorem drop1 (ls : List Int) : cutV (ls.map V.int) (some 1) none = (ls.drop 1).map V.int := by
  unfold cutV HT.sIx
  cases ls with
  | nil => rfl
  | cons c r =>
    simp only [List.map_cons, List.length_cons, List.length_map, List.drop_succ_cons, List.drop_zero]
    have e : min (Int.toNat 1) (r.length + 1) = 1 := by
      show min 1 _ = 1
      omega
    rw [if_neg (by decide), e]
    simp only [List.drop_succ_cons, List.drop_zero, Nat.add_sub_cancel]
    rw [← List.length_map (f := V.int) (as := r), List.take_length]
theorem zone_am (z : Dr) : dzone z z.am := .inl rfl
theorem zone_al (z : Dr) : dzone z z.al := .inr (.inr rfl)
theorem am_ne (h : DrOk z H) : z.am ≠ z.ac ∧ z.am ≠ z.al := by
  refine ⟨fun e => ?_, fun e => ?_⟩
  · have := h.m
    rw [e, h.c] at this
    cases this
  · have := h.m
    rw [e, h.l] at this
    cases this
/-- the first of what is left is dropped -/
theorem st_tail {p : Addr} (x : St0 K g0 H0 hm z H) (hp : H p = none) : St0 K g0 H0 hm { z with al := p, ls := z.ls.drop 1 } (upd (upd H p (.lst ((z.ls.drop 1).map V.int))) z.am (.dK [(.inr "cells", .ref z.ac), (.inr "left", .ref p), (.inr "at", .int (z.n : Int))])) := by
  have h := x.dr
  obtain ⟨n1, n2⟩ := am_ne h
  have pm : z.am ≠ p := fun e => by have := h.m; rw [e, hp] at this; cases this
  have pc : z.ac ≠ p := fun e => by have := h.c; rw [e, hp] at this; cases this
  have s1 : Same H (upd H p (.lst ((z.ls.drop 1).map V.int))) := fun b u e => by rw [upd_ne (ne_of_none e hp)]; exact e
  refine x.upd (Sm.s s1) (zone_am z) rfl ⟨upd_same, ?_, ?_, pc, h.bits, h.clen, fun c hc => h.pos c (List.mem_of_mem_drop hc), ?_⟩ fun b zb => ?_
  · show upd _ z.am _ z.ac = _
    rw [upd_ne n1.symm, upd_ne pc]
    exact h.c
  · show upd _ z.am _ p = _
    rw [upd_ne pm.symm, upd_same]
  · show (z.ls.drop 1).length ≤ 63
    rw [List.length_drop]
    have := h.llen
    omega
  · rcases zb with q | q | q
    · exact .inl (.inl q)
    · exact .inl (.inr (.inl q))
    · right
      have q' : b = p := q
      rw [q']
      exact hp
/-- the first of what is left is divided -/
theorem st_div {c : Int} (x : St0 K g0 H0 hm z H) (hc : 0 ≤ c) (hl : z.ls ≠ []) : St0 K g0 H0 hm { z with ls := z.ls.set 0 c } (upd H z.al (.lst ((z.ls.map V.int).set 0 (.int c)))) := by
  have h := x.dr
  obtain ⟨n1, n2⟩ := am_ne h
  refine x.upd (Sm.refl _) (zone_al z) rfl ⟨?_, ?_, ?_, h.ne, h.bits, h.clen, fun a ha => ?_, ?_⟩ fun b zb => ?_
  · show upd _ z.al _ z.am = _
    rw [upd_ne n2]
    exact h.m
  · show upd _ z.al _ z.ac = _
    rw [upd_ne h.ne]
    exact h.c
  · show upd _ z.al _ z.al = _
    rw [upd_same, List.map_set]
  · rcases List.mem_or_eq_of_mem_set ha with q | q
    · exact h.pos a q
    · rw [q]
      exact hc
  · show (z.ls.set 0 c).length ≤ 63
    rw [List.length_set]
    exact h.llen
  · exact .inl zb
/-- one more -/
theorem st_at (x : St0 K g0 H0 hm z H) : St0 K g0 H0 hm { z with n := z.n + 1 } (upd H z.am (.dK [(.inr "cells", .ref z.ac), (.inr "left", .ref z.al), (.inr "at", .int ((z.n : Int) + 1))])) := by
  have h := x.dr
  obtain ⟨n1, n2⟩ := am_ne h
  refine x.upd (Sm.refl _) (zone_am z) rfl ⟨?_, ?_, ?_, h.ne, h.bits, h.clen, h.pos, h.llen⟩ fun b zb => ?_
  · show upd _ z.am _ z.am = _
    rw [upd_same]
    rfl
  · show upd _ z.am _ z.ac = _
    rw [upd_ne n1.symm]
    exact h.c
  · show upd _ z.am _ z.al = _
    rw [upd_ne n2.symm]
    exact h.l
  · exact .inl zb
theorem v_ne {s : List Slot} {Q : Bool → VS → Prop} {E : MX} (hq : Q (!z.ls.isEmpty) ⟨.dat (drD z) :: s, m0⟩) : nNe ⟨.dat (drD z) :: s, m0⟩ Q E := by
  show dgetD (drD z) (.str "left") _
  refine get_l z ⟨Nat.zero_le _, ne_ints ⟨_, rfl, hq⟩⟩
theorem v_w {s : List Slot} : nW ⟨.dat (drD z) :: s, m0⟩ (fun b s' => s'.n = m0 ∧ (b = true → z.ls ≠ [])) fun _ _ => False := by
  refine v_ne (Q := fun b s' => if b = true then _ else _) ?_
  cases e : z.ls with
  | nil => exact ⟨rfl, fun q => (nomatch q)⟩
  | cons c r =>
    refine get_l z ?_
    rw [e]
    exact ⟨.int c, atI0 _ _, _, rfl, rfl, fun _ q => (nomatch q)⟩
theorem rest_ok {n : Nat} (x : St0 K g0 H0 hm z H) (hk : 0 < k) (hk1 : k < 2 ^ 30) (hn : z.n + 1 = n) (hn1 : n < 2 ^ 60) {Dn : Ends} (fin : ∀ g' H' (n' : Nat) r, Ext g0 H0 g' H' → GhOk g' H' ⟨n', hm⟩ → 0 ≤ r → r < k → n' ≤ n + 1 → Dn.rt (.int r) H') :
    tSeq (tIfS (exT K nNe) (tSeq (tAsg (exE K nHead) (gName 6)) (tSeq (tAsg (exE K nDiv) (gSub tL (tC (.int 0)) rSetL)) (exS K nMod))) tNext)
      (tSeq (tPar 2 3 (tCons (exE K nAt) (tCons (exE K nCs) tNil))) (tSeq (sDPut (tVar 0) (tC (.str "at")) (tVar 2)) (exS K nEnd))) Dn (sgN z.am k) H := by
  have fin' : ∀ z1 H1 r, St0 K g0 H0 hm z1 H1 → z1.n ≤ n → 0 ≤ r → r < k → Dn.rt (.int r) H1 := by
    intro z1 H1 r y hz h0 h1
    obtain ⟨g1, k1, k2, k3⟩ := y.ex
    exact fin g1 H1 _ r k1 k2 h0 h1 (by omega)
  refine useT (relN x.tab x.dr) (v_ne (Q := fun b s' => s'.n = m0 ∧ (b = !z.ls.isEmpty)) ⟨rfl, rfl⟩) fun H1 b s1 hb => ?_
  have x1 := x.same s1
  cases e : z.ls with
  | nil =>
    rw [e] at hb
    subst hb
    refine useE (Qd := fun d => d = .int ((z.n : Int) + 1)) (relN x1.tab x1.dr) (get_a z ⟨rfl, rfl⟩) fun H2 v2 d2 s2 dv2 hd2 => ?_
    subst hd2
    have ev2 := dv2.of_i
    subst ev2
    have x2 := x1.same s2
    refine useE (Qd := fun d => d = .lst (z.cs.map .int)) (relN x2.tab x2.dr) (get_c z ⟨rfl, rfl⟩) fun H3 v3 d3 s3 dv3 hd3 => ?_
    subst hd3
    obtain ⟨pc, vs, rfl, hpc, hvs⟩ := dv3.of_l
    have evs := hvs.of_ints
    subst evs
    have x3 := x2.same s3
    refine ⟨_, _, rfl, ?_⟩
    refine ⟨_, rfl, _, rfl, z.am, _, rfl, DPut.k (k := Sum.inr (Str.ofString "at")) x3.dr.m (show 3 < sizeLine by decide), ?_⟩
    rw [put_a]
    have x4 := st_at x3
    have npc : pc ≠ z.am := fun q => by
      have := x3.dr.m
      rw [← q] at this
      have hpc' : H3 pc = _ := strip_sub H3 _ _ hpc
      rw [hpc'] at this
      cases this
    refine useS (e := [.un, .dat (.int k), .dat (.int ((z.n : Int) + 1)), .dat (.lst (z.cs.map .int)), .un, .un, .un]) (Nx := fun _ => False) (Rt := fun d => ∃ r, d = .int r ∧ 0 ≤ r ∧ r < k) (relA x4.tab rfl rfl fun i d e => ?_) (end_ok hk ⟨by omega, by omega⟩) (fun _ _ _ _ _ z => z.elim) fun H5 v5 d5 s5 dv5 hd5 => ?_
    · match i, e with
      | 0, e => cases e
      | 1, e => cases e; exact ⟨_, rfl, DV.i⟩
      | 2, e => cases e; exact ⟨_, rfl, DV.i⟩
      | 3, e =>
        cases e
        refine ⟨_, rfl, DV.l (strip_of ?_ fun _ z => (nomatch z)) DVs.ints⟩
        show upd H3 z.am _ pc = _
        rw [upd_ne npc]
        exact strip_sub H3 _ _ hpc
      | 4, e => cases e
      | 5, e => cases e
      | 6, e => cases e
      | n + 7, e => cases e
    · obtain ⟨r, rfl, h0, h1⟩ := hd5
      rw [dv5.of_i]
      exact fin' _ H5 r (x4.same s5) (by show z.n + 1 ≤ n; omega) h0 h1
  | cons c r =>
    rw [e] at hb
    subst hb
    have hc : 0 ≤ c := x.dr.pos c (by rw [e]; simp)
    refine useE (Qd := fun d => d = .int c) (relN x1.tab x1.dr) (get_l z ⟨.int c, by rw [e]; exact atI0 _ _, rfl, rfl⟩) fun H2 v2 d2 s2 dv2 hd2 => ?_
    subst hd2
    have ev2 := dv2.of_i
    subst ev2
    have x2 := x1.same s2
    have hq : 0 ≤ c / k := Int.ediv_nonneg hc (by omega)
    have rel2 : ∀ {H : Hp}, LamX.Tabs (TabsOf K) H → Rel K (bA K H) (gA K H) ⟨[.un, .dat (.int k), .un, .un, .un, .un, .dat (.int c)], m0⟩ ((sgN z.am k).set 6 (some (.int c))) H := fun {H} ht => relA ht rfl rfl fun i d e => by
      match i, e with
      | 0, e => cases e
      | 1, e => cases e; exact ⟨_, rfl, DV.i⟩
      | 2, e => cases e
      | 3, e => cases e
      | 4, e => cases e
      | 5, e => cases e
      | 6, e => cases e; exact ⟨_, rfl, DV.i⟩
      | n + 7, e => cases e
    refine useE (Qd := fun d => d = .int (c / k)) (rel2 x2.tab) (by
      simp only [nDiv, mOp, mVar, List.getElem?_cons_zero, List.getElem?_cons_succ]
      exact div_s hk (by omega) ⟨trivial, rfl⟩) fun H3 v3 d3 s3 dv3 hd3 => ?_
    subst hd3
    have ev3 := dv3.of_i
    subst ev3
    have x3 := x2.same s3
    refine use_L x3.dr rfl ?_
    refine ⟨z.al, z.ls.map V.int, 0, 0, rfl, rfl, x3.dr.l, by rw [e]; exact ixn0 _ _, ?_⟩
    have x4 := st_div (c := c / k) x3 hq (by rw [e]; simp)
    refine useS (Nx := fun _ => False) (Rt := fun d => ∃ r, d = .int r ∧ 0 ≤ r ∧ r < k) (rel2 x4.tab) (by
      simp only [nMod, mRet, mOp, mB, mCons, mNil, intD, mVar, List.getElem?_cons_zero, List.getElem?_cons_succ]
      exact mod_s hk ⟨trivial, _, rfl, Int.emod_nonneg _ (by omega), Int.emod_lt_of_pos _ hk⟩) (fun _ _ _ _ _ z => z.elim) fun H5 v5 d5 s5 dv5 hd5 => ?_
    obtain ⟨r, rfl, h0, h1⟩ := hd5
    rw [dv5.of_i]
    exact fin' _ H5 r (x4.same s5) (by show z.n ≤ n; omega) h0 h1
theorem next_ok {n : Nat} (t0 : TbOk K g0 H0) (ok : GhOk g0 H0 ⟨n, hm⟩) (e0 : g0.r = some z0) (hk : 0 < k) (hk1 : k < 2 ^ 30) (hn1 : n < 2 ^ 60) {Dn : Ends} (fin : ∀ g' H' (n' : Nat) r, Ext g0 H0 g' H' → GhOk g' H' ⟨n', hm⟩ → 0 ≤ r → r < k → n' ≤ n + 1 → Dn.rt (.int r) H') :
    t_next K Dn (sgN z0.am k) H0 := by
  have hn : z0.n + 1 = n := (ok.dr z0 e0).2
  refine ⟨fun m σ H => σ = sgN z0.am k ∧ ∃ z, St0 K g0 H0 hm z H ∧ z.am = z0.am ∧ z.n = z0.n ∧ z.ls.length = m, ⟨_, rfl, z0, ⟨t0, g0, Ext.refl _ _, by rw [hn]; exact ok, e0⟩, rfl, rfl, rfl⟩, ?_⟩
  rintro m σ H ⟨rfl, z, x, ea, en, rfl⟩
  rw [← ea]
  refine useT (relN x.tab x.dr) v_w fun H1 b s1 hb => ?_
  have x1 := x.same s1
  cases b with
  | false =>
    rw [if_neg (by decide)]
    exact rest_ok x1 hk hk1 (by rw [en]; exact hn) hn1 fin
  | true =>
    have hl := hb rfl
    rw [if_pos rfl]
    refine ⟨fun σ' H' => σ' = sgN z.am k ∧ ∃ z', St0 K g0 H0 hm z' H' ∧ z'.am = z.am ∧ z'.n = z.n ∧ z'.ls.length < z.ls.length, ?_, ?_⟩
    · rintro σ' H' ⟨rfl, z', y, h1, h2, h3⟩
      exact ⟨_, h3, rfl, z', y, h1, h2.trans en, rfl⟩
    · refine use_L x1.dr rfl ?_
      refine ⟨_, rfl, z.al, _, rfl, SqL.of x1.dr.l, fun p hp => ?_⟩
      rw [drop1]
      have x2 := st_tail x1 hp
      have pm : z.am ≠ p := fun q => by
        have := x1.dr.m
        rw [q, hp] at this
        cases this
      have hm : (upd H1 p (.lst ((z.ls.drop 1).map V.int))) z.am = some (.dK [(.inr "cells", .ref z.ac), (.inr "left", .ref z.al), (.inr "at", .int (z.n : Int))]) := by
        rw [upd_ne pm]
        exact x1.dr.m
      refine ⟨_, rfl, z.am, _, rfl, DPut.k (k := Sum.inr (Str.ofString "left")) hm (show 3 < sizeLine by decide), ?_⟩
      rw [put_l]
      refine ⟨rfl, _, x2, rfl, rfl, ?_⟩
      show (z.ls.drop 1).length < z.ls.length
      rw [List.length_drop]
      have := List.length_pos_iff.mpr hl
      omega
end
end VL
namespace VL
open PySem L2
def rLs (K : PySem.W.Frag) : List V → Hp → VK → Prop := fun vs H Q => ∃ q us, vs = [.ref q] ∧ (SqL K H q us ∨ SqT K H q us) ∧ ∀ l, H l = none → Q (.ref l) (upd H l (.lst us))
def bgT : M Bool := mTst (mOp (ordD (fun i j => decide (j ≤ i)) fun x y => !sLt x y) (mVar 1) (mOp (dI CPow fun i j => .int (i ^ j.toNat)) (mC (.int 10)) (mC (.int 18))))
def bgL : M D := mComp [1] (mIt itL (mVar 0)) (gN 1) bgT (mVar 1)
def exF (K : PySem.W.Frag) (m : M D) : TE := fun σ H Q => ∃ B, rdF K B W0 m σ H Q
theorem pe_exF {X : Cx} {a : Expr} {m : M D} (h : ∀ B, PE X a (rdF X.K B W0 m)) : PE X a (exF X.K m) := ⟨fun pins s σ H Q I ⟨B, q⟩ => (h B).run pins s σ H Q I q⟩
def t_begun (K : PySem.W.Frag) : TS := tRet (tDisp [(tC (.str "cells"), tCB (rLs K) (tCons (tVar 0) tNil)), (tC (.str "left"), exF K bgL), (tC (.str "at"), tC (.int 0))])
theorem left_of {s0 : Slot} {Q : List D → Ms → Prop} : ∀ (ns : List Int) (acc : List Int), acc.length + ns.length ≤ 1000 → (∀ c ∈ acc, 0 ≤ c) → (∀ ls : List Int, ls.length ≤ acc.length + ns.length → (∀ c ∈ ls, 0 ≤ c) → Q (ls.map .int) m0) →
    compR [s0, .un] (gN 1) bgT (mVar 1) (ns.map .int) m0 (acc.map .int) Q
  | [], acc, _, hp, h => h acc (by simp) hp
  | c :: r, acc, hl, hp, h => by
    rw [List.length_cons] at hl
    simp only [List.map_cons, compR, gN, bgT, mTst, mOp, mVar, mC, List.set_cons_zero, List.set_cons_succ, List.getElem?_cons_zero, List.getElem?_cons_succ]
    refine ⟨⟨by decide, by decide, by decide⟩, _, rfl, ?_⟩
    by_cases hc : (10 : Int) ^ (Int.toNat 18) ≤ c
    · rw [if_pos (show (fun (i j : Int) => decide (j ≤ i)) c (10 ^ Int.toNat 18) = true from decide_eq_true hc)]
      have e : List.map D.int acc ++ [D.int c] = (acc ++ [c]).map D.int := by simp
      refine ⟨by rw [List.length_map]; exact Nat.lt_of_le_of_lt (show acc.length ≤ 1000 by omega) (by decide), ?_⟩
      rw [e]
      refine left_of r (acc ++ [c]) (by rw [List.length_append, List.length_singleton]; omega) (fun x hx => ?_) fun ls h1 h2 => h ls (by rw [List.length_append, List.length_singleton] at h1; rw [List.length_cons]; omega) h2
      rcases List.mem_append.mp hx with q | q
      · exact hp x q
      · rw [List.mem_singleton.mp q]
        exact Int.le_trans (show (0 : Int) ≤ 10 ^ Int.toNat 18 by decide) hc
    · rw [if_neg (show ¬ ((fun (i j : Int) => decide (j ≤ i)) c (10 ^ Int.toNat 18) = true) from fun q => hc (of_decide_eq_true q))]
      exact left_of r acc (by omega) hp fun ls h1 h2 => h ls (by rw [List.length_cons]; omega) h2
section
variable {K : PySem.W.Frag} {g0 : Gh} {H0 : Hp}
theorem begun_ok {v : V} {ns : List Int} (t0 : TbOk K g0 H0) (ok : GhOk g0 H0 m0) (hd : DV K g0 (.scr ns) v) (hl : ns.length ≤ 63) (hb : ∀ c ∈ ns, Builtin.Int.intBits c ≤ 1048576) {Dn : Ends} (fin : ∀ g' H' z, Ext g0 H0 g' H' → GhOk g' H' ⟨1, []⟩ → g'.r = some z → Dn.rt (.ref z.am) H') :
    t_begun K Dn [some v, none] H0 := by
  have hd' := hd
  simp only [DV] at hd'
  obtain ⟨a, rfl, hs⟩ := hd'
  have r0 : g0.r = none := by
    cases e : g0.r with
    | none => rfl
    | some z =>
      have := (ok.dr z e).2
      dsimp only at this
      omega
  have l0 : g0.L = [] := List.length_eq_zero_iff.mp ok.mem.len
  have nz : ∀ {b : Addr}, ¬ zone ⟨g0.G, none, g0.T, [], g0.K⟩ b := fun {b} z => by
    rcases z with ⟨_, z, _⟩ | ⟨i, z⟩
    · cases z
    · simp at z
  intro p hp
  have s1 : Same H0 (upd H0 p (.dK [])) := fun b u e => by rw [upd_ne (ne_of_none e hp)]; exact e
  refine ⟨_, rfl, a, _, rfl, .inl (Same.seq (ok.sub.trans s1) hs), fun l hl1 => ?_⟩
  have s2 : Same (upd H0 p (.dK [])) (upd (upd H0 p (.dK [])) l (.lst (ns.map V.int))) := fun b u e => by rw [upd_ne (ne_of_none e hl1)]; exact e
  have s12 := s1.trans s2
  have lp : l ≠ p := fun e => by rw [e, upd_same] at hl1; cases hl1
  have hl0 : H0 l = none := by rw [upd_ne lp] at hl1; exact hl1
  refine ⟨⟨⟨g0.G, none, g0.T, [], g0.K⟩, upd (upd H0 p (.dK [])) l (.lst (ns.map V.int)), none, none⟩, ⟨g0.G, none, g0.T, [], g0.K⟩, ⟨[.dat (.scr ns), .un], m0⟩, fun d s' => s'.n = m0 ∧ ∃ ls : List Int, d = .lst (ls.map .int) ∧ ls.length ≤ 63 ∧ ∀ c ∈ ls, 0 ≤ c, fun _ _ => False, ?_, ?_, ?_, fun _ _ _ _ _ _ _ _ _ z => z⟩
  · refine ⟨⟨ok.sub.trans s12, ok.nt, fun _ z => (nomatch z), fun _ z => (nz z).elim, ⟨rfl, fun i c a f z => by simp at z, fun i j a z => by simp at z, fun a ⟨i, z⟩ => by simp at z⟩⟩, Ext.refl _ _, rfl, fun i sl o h1 h2 => ?_, fun i j xs ys h1 => ?_, fun _ _ z => (nomatch z), fun _ z => (nomatch z), ⟨t0.1, t0.k, t0.s.ext s12⟩⟩
    · match i, h1, h2 with
      | 0, h1, h2 =>
        cases h1
        cases h2
        refine ⟨_, rfl, ?_⟩
        simp only [DV]
        exact ⟨a, rfl, hs⟩
      | 1, h1, h2 =>
        cases h1
        trivial
      | n + 2, h1, _ => cases h1
    · match i, h1 with
      | 0, h1 => cases h1
      | 1, h1 => cases h1
      | n + 2, h1 => cases h1
  · show compR [.dat (.scr ns), .un] (gN 1) bgT (mVar 1) (ns.map .int) m0 ([].map .int) _
    refine left_of ns [] (by simp; omega) (fun _ z => (nomatch z)) fun ls h1 h2 => ⟨rfl, ls, rfl, ?_, h2⟩
    simp at h1
    omega
  · rintro g' s' H' v d x R' dv ⟨hn, ls, rfl, hll, hpos⟩ fr
    obtain ⟨q, vs, rfl, hq, hvs⟩ := dv.of_l
    have evs := hvs.of_ints
    subst evs
    have hq1 := fr q rfl
    have ql : q ≠ l := fun e => by
      have z : (upd (upd H0 p (.dK [])) l (.lst (ns.map V.int))) q = none := hq1
      rw [e, upd_same] at z
      cases z
    have hq2 : (upd H0 p (.dK [])) q = none := by
      have z : (upd (upd H0 p (.dK [])) l (.lst (ns.map V.int))) q = none := hq1
      rw [upd_ne ql] at z
      exact z
    have qp : q ≠ p := fun e => by rw [e, upd_same] at hq2; cases hq2
    have hq0 : H0 q = none := by rw [upd_ne qp] at hq2; exact hq2
    have keep : ∀ b u, (upd (upd H0 p (.dK [])) l (.lst (ns.map V.int))) b = some u → NT u → H' b = some u := fun b u e nt => R'.ext.keep b u e nz nt
    have hpH : H' p = some (.dK []) := keep p _ (s2 _ _ upd_same) fun _ z => (nomatch z)
    have hlH : H' l = some (.lst (ns.map V.int)) := keep l _ upd_same fun _ z => (nomatch z)
    have hqH : H' q = some (.lst (ls.map V.int)) := R'.gh.sub _ _ hq
    show H' p = some (.dK []) ∧ _
    refine ⟨hpH, [(.inr "cells", .ref l), (.inr "left", .ref q), (.inr "at", .int 0)], rfl, by simp, ?_⟩
    have em : mergeK [] [((.inr "cells" : Key), V.ref l), (.inr "left", .ref q), (.inr "at", .int 0)] = [(.inr "cells", .ref l), (.inr "left", .ref q), (.inr "at", .int 0)] := by
      simp only [mergeK, List.foldl_cons, List.foldl_nil, putK, List.any_nil, List.any_cons, List.nil_append, List.cons_append, k_cl, k_ca, k_la, decide_false, Bool.or_false, if_false, Bool.false_eq_true]
    rw [em]
    have old : ∀ b u, H0 b = some u → NT u → H' b = some u ∧ b ≠ p := fun b u e nt => ⟨keep b u (s12 _ _ e) nt, ne_of_none e hp⟩
    refine fin ⟨g0.G, some ⟨p, l, q, ns, ls, 0⟩, g0.T, [], g0.K⟩ _ ⟨p, l, q, ns, ls, 0⟩ ⟨Same.refl _, fun b u e _ nt => ?_, ⟨rfl, fun t => ?_⟩, fun _ _ _ z _ => z, fun b u e => ?_, fun z e => ?_, fun b z => ?_, ⟨fun i a f z => ?_, rfl⟩⟩ ⟨fun b u e => ?_, ok.nt, fun z e => ?_, fun b z => ?_, ⟨rfl, fun i c a f z => by simp at z, fun i j a z => by simp at z, fun a ⟨i, z⟩ => by simp at z⟩⟩ rfl
    · rw [upd_ne (old b u e nt).2]
      exact (old b u e nt).1
    · exact tab_chg hpH (fun _ z => (nomatch z)) (fun _ _ z => (nomatch z)) _ (R'.ext.tb.2 (t.ext s12))
    · obtain ⟨u', e'⟩ := R'.ext.th b u (s12 _ _ e)
      exact ⟨u', by rw [upd_ne (ne_of_none e hp)]; exact e'⟩
    · rw [r0] at e
      cases e
    · right
      rcases z with ⟨z', e, y⟩ | ⟨i, y⟩
      · cases e
        rcases y with y | y | y
        · rw [y]; exact hp
        · rw [y]; exact hl0
        · rw [y]; exact hq0
      · simp at y
    · rw [l0] at z
      simp at z
    · have e0 := ok.sub b u e
      rw [upd_ne (old b u e0 (ok.nt b u e)).2]
      exact (old b u e0 (ok.nt b u e)).1
    · cases e
      refine ⟨⟨?_, ?_, ?_, ql.symm, hb, hl, hpos, hll⟩, rfl⟩
      · show upd H' p _ p = _
        rw [upd_same]
        rfl
      · show upd H' p _ l = _
        rw [upd_ne lp]
        exact hlH
      · show upd H' p _ q = _
        rw [upd_ne qp]
        exact hqH
    · rcases z with ⟨z', e, y⟩ | ⟨i, y⟩
      · cases e
        rcases y with y | y | y
        · rw [y]; exact ok.sub.free hp
        · rw [y]; exact ok.sub.free hl0
        · rw [y]; exact ok.sub.free hq0
      · simp at y
end
end VL
namespace VL
open PySem L2
theorem compR_map {e : List Slot} {tgt : MG} {me : M D} {n : Ms} {Q : List D → Ms → Prop} (f : D → D) : ∀ (items acc : List D), acc.length + items.length ≤ 1000000 →
    (∀ d ∈ items, ∀ q : D → Ms → Prop, q (f d) n → tgt d ⟨e, n⟩ fun s1 => me s1 (fun y s3 => q y s3.n) fun _ _ => False) → Q (acc ++ items.map f) n → compR e tgt mYes me items n acc Q
  | [], acc, _, _, h => by simpa [compR] using h
  | d :: ds, acc, hl, hs, h => by
    rw [List.length_cons] at hl
    refine hs d (by simp) (fun y n' => acc.length < sizeLine ∧ compR e tgt mYes me ds n' (acc ++ [y]) Q) ⟨Nat.lt_of_le_of_lt (show acc.length ≤ 1000000 by omega) (by decide), ?_⟩
    refine compR_map f ds (acc ++ [f d]) (by rw [List.length_append, List.length_singleton]; omega) (fun d' hd => hs d' (by simp [hd])) ?_
    simpa using h
theorem compR_draw {e : List Slot} {tgt : MG} {me : M D} {Q : List D → Ms → Prop} {P : D → Prop} {c L : Nat} {h : List Cell} : ∀ (items acc : List D) (n : Nat), acc.length + items.length ≤ 1000000 → n + c * items.length ≤ L →
    (∀ d ∈ items, ∀ n', n' + c ≤ L → ∀ q : D → Ms → Prop, (∀ (y : D) (n2 : Nat), P y → n2 ≤ n' + c → q y ⟨n2, h⟩) → tgt d ⟨e, ⟨n', h⟩⟩ fun s1 => me s1 (fun y s3 => q y s3.n) fun _ _ => False) →
    (∀ (ys : List D) (n' : Nat), ys.length = items.length → (∀ y ∈ ys, P y) → n' ≤ n + c * items.length → Q (acc ++ ys) ⟨n', h⟩) → compR e tgt mYes me items ⟨n, h⟩ acc Q
  | [], acc, n, _, _, _, hq => by simpa [compR] using hq [] n rfl (fun _ z => (nomatch z)) (by simp)
  | d :: ds, acc, n, hl, hn, hs, hq => by
    rw [List.length_cons] at hl hn
    have hn' : n + c + c * ds.length ≤ L := by
      rw [Nat.mul_add] at hn
      omega
    refine hs d (by simp) n (by omega) (fun y n' => acc.length < sizeLine ∧ compR e tgt mYes me ds n' (acc ++ [y]) Q) fun y n2 py h2 => ⟨Nat.lt_of_le_of_lt (show acc.length ≤ 1000000 by omega) (by decide), ?_⟩
    refine compR_draw ds (acc ++ [y]) n2 (by rw [List.length_append, List.length_singleton]; omega) (by omega) (fun d' hd => hs d' (by simp [hd])) fun ys n' h3 h4 h5 => ?_
    have hP : ∀ z ∈ y :: ys, P z := fun z hz => by
      rcases List.mem_cons.mp hz with q | q
      · rw [q]; exact py
      · exact h4 z q
    have := hq (y :: ys) n' (by simp [h3]) hP (by rw [List.length_cons, Nat.mul_add]; omega)
    simpa using this
/-- a loop by a rule -/
theorem forR_inv {tgt : MG} {body : MS} {k : VE} (I : List D → VS → Prop) (hn : ∀ s, I [] s → k.nx s)
    (hs : ∀ d ds s, I (d :: ds) s → ∀ N : VS → Prop, (∀ s2, I ds s2 → N s2) → tgt d s fun s1 => body s1 { k with nx := N, ct := N, bk := k.nx }) : ∀ (items : List D) (s : VS), I items s → forR tgt body items s k
  | [], s, h => hn s h
  | d :: ds, s, h => hs d ds s h _ fun s2 h2 => forR_inv I hn hs ds s2 h2
end VL
namespace VL
open PySem L2
abbrev supBody (fld arg msg : Str) (j : Nat) (p0 p1 p2 p3 p4 p5 q1 q2 q3 q4 : Pos) : List Stmt :=
  [.Expr (.Call (.Attribute (.Call (.Name "super" p0) [] [] p1) "__init__" p2) [.Constant (.str msg) j p3] [] p4) p5, .Assign [.Attribute (.Name "self" q1) fld q2] (.Name arg q3) q4]
abbrev fnScope (names : List (Str × NameKind)) : Scope := { kind := .function, names := names, isGenerator := false, isCoroutine := false, more := [] }
/-- what a built-in base class of errors says -/
structure EB (B newId i : String) (tl : List Value) : Prop where
  F : ExcBaseFacts B newId i tl
  SF : StoreFacts B tl "object.__setattr__" "object"
  kx : PySem.W.KxsFacts B i
theorem eb_VE : EB "ValueError" "ValueError.__new__" "ValueError.__init__" [.type "ValueError", .type "Exception", .type "BaseException", .type "object"] := ⟨PySem.F.excBase_ValueError, PySem.F.store_ValueError, PySem.W.kxs_ValueError⟩
theorem eb_LE : EB "LookupError" "LookupError.__new__" "LookupError.__init__" [.type "LookupError", .type "Exception", .type "BaseException", .type "object"] := ⟨PySem.F.excBase_LookupError, PySem.F.store_LookupError, PySem.W.kxs_LookupError⟩
theorem eb_OE : EB "OverflowError" "OverflowError.__new__" "OverflowError.__init__" [.type "OverflowError", .type "ArithmeticError", .type "Exception", .type "BaseException", .type "object"] := ⟨PySem.F.excBase_OverflowError, PySem.F.store_OverflowError, PySem.W.kxs_OverflowError⟩
/-- an own class of errors below such a base -/
structure OexB (K : PySem.W.Frag) (C : Addr) (newId : String) (tl : List Value) : Prop where
  cls : ∃ nm q N bs bm sn sub ab col dd k0 k1 k2 k3 k5, K.lookup C = some (excClassObj nm q C N bs bm true sn sub ab col dd k0 k1 k2 k3 k5 newId) ∧ PySem.W.excTail tl bm = true
  sa : PySem.W.findIn K (.ref C) "__setattr__" = some (some (.builtin "object.__setattr__"))
  exC : PySem.W.subIn K (.ref C) (.type "BaseException") = some true
  tyC : PySem.W.typeIn K (.ref C) = some (.type "type")
  kC : PySem.W.keepIn K (.ref C) = true
section
variable {P : Program} {w : World} {A : Around} {R : Result → Shared → Prop} {hh : Heap} {g : Array GenState} {d : Drawn} {t : Nat} {os : OsState} {B newId i : String} {tl : List Value}
/-- the first field of a new error -/
theorem osaG {K : PySem.W.Frag} {fld : Str} {tk : Tok} {v : Value} {x C : Addr} {fv : Array Value} {cd : ClassData} {bm : List Value} (eb : EB B newId i tl)
    (X : K.In hh) (ex : hh.get? x = some { cls := .ref C, data := .fields fv }) (ecd : PySem.W.clsIn K C = some cd) (em : cd.mro = .ref C :: bm) (et : PySem.W.excTail tl bm = true) (eh : cd.hasDict = true) (no : PySem.W.findIn K (.ref C) fld = some none)
    (fin : ∀ h' tk' dx, (∀ b o, b ≠ x → hh.get? b = some o → h'.get? b = some o) → hh.objs.size ≤ dx → dx ≠ x → h'.get? x = some { cls := .ref C, dict := some dx, data := .fields fv } →
      h'.Ns1 dx (fun y => if y = fld then some v else none) → R (.ok (.ret .none)) ⟨h', g, d, tk', os⟩) :
    codeAny (model P w) A (.call (.builtin "object.__setattr__") ⟨[.ref x, .str fld tk, v], []⟩) R ⟨hh, g, d, t, os⟩ := by
  have I0 : PySem.W.InstAt hh x { cls := .ref C, data := .fields fv } C none := ⟨ex, rfl, rfl, trivial⟩
  have nx : x ≠ hh.objs.size := Nat.ne_of_lt (Heap.lt_size ex)
  have cl : PySem.W.Looks (model P w) hh (classData C) cd := PySem.W.looks_clsIn X ecd
  refine PySem.W.osa_openX (s := ⟨hh, g, d, t, os⟩) (r := none) eb.SF X I0 (by unfold PySem.W.excOver; rw [ecd]; simp [em, et]) (by unfold PySem.W.takerIn; rw [no]; rfl) fun b => ?_
  show wpAny _ _ (Builtin.ObjectAttr.storeInOwnDict (.ref x) (.ref C) (.str fld tk) fld v b) _ _ _
  obtain ⟨c1, c2, c3, c4, c5, c6, c7, c8, c9, c10, c11⟩ := cd
  dsimp only at eh em
  subst eh
  unfold Builtin.ObjectAttr.storeInOwnDict Builtin.ObjectAttr.ownDictForStores
  repeat (first | with_reducible refine PySem.HandSPX.store_in_new ?_ ?_ | with_reducible refine wpAny_loadPart_at ex ?_ | with_reducible refine cl.at ?_ | wp_step)
  · exact ⟨_, #[], _, (Heap.get?_update_ne _ _ _ _ nx.symm).trans (Heap.get?_push_at rfl rfl), rfl, fun e he => absurd he (by simp), fun _ => rfl⟩
  · intro h' tk' ns sb
    have e1 : (hh.push { cls := .type "dict", data := .dict #[] }).get? x = some { cls := .ref C, data := .fields fv } := Heap.get?_push_of_some _ ex
    exact fin h' tk' hh.objs.size (fun b o nb ho => (sb.2 b (Nat.ne_of_lt (Heap.lt_size ho))).trans ((Heap.get?_update_ne _ _ _ _ nb).trans (Heap.get?_push_of_some _ ho))) (Nat.le_refl _) nx.symm ((sb.2 x nx).trans (Heap.get?_update_self _ e1 rfl)) ns
end
section
variable {P : Program} {w : World} {A : Around} {s : Shared} {K : PySem.W.Frag} {mg mb : Str → Option Value} {C fI cc cda x t0 : Addr} {v : Value} {R : Result → Shared → Prop} {fld arg msg name qual : Str} {j : Nat} {p0 p1 p2 p3 p4 p5 q1 q2 q3 q4 : Pos}
  {params : Arguments} {names : List (Str × NameKind)} {dV kV doc pm ct oc cl ccl : Value} {an od cld cdd : Option Addr} {args : Args} {osl csl ccs : Array (Option Value)} {vs : Array Value} {file : Str} {tf : Tok} {ar : Arg} {bmB : List Value} {B i newId : String}
theorem sup_form {env : Env} (hln : (p2.endLine == p4.line) = true) : eval (.Call (.Attribute (.Call (.Name "super" p0) [] [] p1) "__init__" p2) [.Constant (.str msg) j p3] [] p4) env = (do
      let ov ← attributeBase (.Call (.Name "super" p0) [] [] p1) "__init__" env (eval (.Call (.Name "super" p0) [] [] p1) env)
      standAt p2.atName
      let (f, first) ← holding [ov] (getMethod ov "__init__" (do return (← importBound (.Call (.Name "super" p0) [] [] p1) env).getD true))
      callWith p4 f first (backTo p4 (starEach [.Constant (.str msg) j p3] env)) []) := by
  show (do
      let ov ← attributeBase (.Call (.Name "super" p0) [] [] p1) "__init__" env (eval (.Call (.Name "super" p0) [] [] p1) env)
      standAt p2.atName
      let (f, first) ← holding [ov] (getMethod ov "__init__" (do return (← importBound (.Call (.Name "super" p0) [] [] p1) env).getD true))
      let callPos ← methodCallPos true (.Call (.Name "super" p0) [] [] p1) env p2 p4
      callWith callPos f first (backTo p4 (starEach [.Constant (.str msg) j p3] env)) []) = _
  unfold methodCallPos
  rw [hln]
  rfl
theorem sup_call {u : Addr} {rest : List Value} {Q : Value → Shared → Prop} {E : Value → Shared → Prop} {h : Heap} {g : Array GenState} {d : Drawn} {t : Nat} {os : OsState} {nm q : Str} {N : Addr} {bs bm : List Value} {hdct : Bool} {sn : List Str} {sub : List Value} {ab : Bool} {col : Option Bool} {dd : Option Addr} {k0 k1 k2 k3 k5 : Option Value}
    (FB : ExcBaseFacts B newId i bmB) (hC : h.get? C = some (excClassObj nm q C N bs bm hdct sn sub ab col dd k0 k1 k2 k3 k5 newId)) (he : h.get? x = some (HandSPX.excO C t0)) (hu : h.get? u = some (PySem.W.kxs_mw i x)) (hz : rest.length ≤ sizeLine)
    (hq : ∀ h' t1, (∀ b o, b ≠ x → h.get? b = some o → h'.get? b = some o) → h'.get? x = some (HandSPX.excO C t1) → Q .none ⟨h', g, d, t, os⟩) :
    wpAny (model P w) A (call (.ref u) rest) Q E ⟨h, g, d, t, os⟩ := by
  refine wpAny_call (codeAny_of_tree ?_)
  show wpAny _ A.in1 (callAny (.ref u) ⟨rest, []⟩) _ _ _
  simp only [callAny]
  refine wpAny_bind (wpAny_load hu ?_)
  simp only [PySem.W.kxs_mw, show (Value.type "method-wrapper" == Value.type "method" || Value.type "method-wrapper" == Value.type "builtin_function_or_method" || Value.type "method-wrapper" == Value.type "method-wrapper") = true by decide, if_true]
  refine W.KFB.if_so (by decide) ?_
  refine wpAny_bind (PySem.ESX.check_bound FB hC he rfl ?_)
  refine wpAny_bind (wpAny_pure (wpAny_pure ?_))
  refine ⟨plainId_quiet FB.init.plain _, codeAny_builtin FB.initEntry ?_⟩
  exact PySem.W.exc_init_tree (cls := .ref C) (t0 := t0) (dv := none) (c2 := .none) (c3 := .none) (b4 := .bool false) he hz fun h' k1 k2 k3 => hq h' _ k1 k2
theorem sup_init (eb : EB B newId i bmB) (T : OexB K C newId bmB) (X : K.In s.heap) (nl : s.heap.NoLimit) (G : s.heap.Ns mainGlobals mg) (Bn : s.heap.Ns builtinsNs mb) (bb : ∀ z : Str, z ≠ "__name__" → mb z = bootBuiltins z) (hsup : mg "super" = none)
    (hfn : K.lookup fI = some ⟨oc, od, .func (PySem.W.fnX name qual params (supBody fld arg msg j p0 p1 p2 p3 p4 p5 q1 q2 q3 q4) (fnScope names) [("__class__", cc)] dV kV doc pm an (.ref cda) ct), osl⟩) (hcd : PySem.W.codeIn K (.ref cda) qual = true)
    (hcell : K.lookup cc = some ⟨cl, cld, .cell (some (.ref C)), csl⟩) (hcode : K.lookup cda = some ⟨ccl, cdd, .fields vs, ccs⟩) (hvs : vs[2]? = some (.str file tf)) (hfile : ((P.main.file : Str) == file) = true)
    (hln : (p2.endLine == p4.line) = true) (htop : (P.main.scope.names.lookup ("super" : Str)).isSome = false) (hp : (params.posonlyargs ++ params.args).head? = some ar) (har : ar.arg = "self") (harg : arg ≠ "self")
    (hks : names.lookup ("super" : Str) = some .globalImplicit) (hkc : names.lookup ("__class__" : Str) = some .free) (hka : names.lookup ("self" : Str) = some .local) (hkv : names.lookup arg = some .local)
    (hnc : ∀ y ∈ names, y.2 ≠ .cell) (hdb : (arg == ("__debug__" : Str)) = false)
    (hbind : BindsTo s (PySem.W.fnX name qual params (supBody fld arg msg j p0 p1 p2 p3 p4 p5 q1 q2 q3 q4) (fnScope names) [("__class__", cc)] dV kV doc pm an (.ref cda) ct) args [("self", .ref x), (arg, v)])
    (hal : PySem.W.ks_superIn K C C "__init__" = some (some (.builtin i))) (hB : PySem.W.subIn K (.ref C) (.type B) = some true) (hop : PySem.W.nsIn K cStatics "thirdparty.any" = some none) (hself : PySem.W.mroIn K C (.ref C) = some true)
    (hno : PySem.W.findIn K (.ref C) fld = some none) (hx : s.heap.get? x = some (HandSPX.excO C t0)) (hxK : K.lookup x = none) (hroom : A.depth < recursionLimit)
    (h : ∀ h' tk dx t1, (∀ b o, b ≠ x → s.heap.get? b = some o → h'.get? b = some o) → s.heap.objs.size ≤ dx → dx ≠ x → h'.get? x = some { cls := .ref C, dict := some dx, data := .fields #[.ref t1, .none, .none, .none, .bool false, .none] } →
      h'.Ns1 dx (fun y => if y = fld then some v else none) → R (.ok (.ret .none)) { s with heap := h', toks := tk }) : codeAny (model P w) A (.call (.ref fI) args) R s := by
  refine ks_codeAny_call_defAt (fd := PySem.W.fnX name qual params (supBody fld arg msg j p0 p1 p2 p3 p4 p5 q1 q2 q3 q4) (fnScope names) [("__class__", cc)] dV kV doc pm an (.ref cda) ct) (binds := [("self", .ref x), (arg, v)]) hroom (X _ _ hfn) rfl nl (PySem.W.codeRec_of X hcd) rfl hbind hnc ?_ (fun h1 hns hk1 => ?_) rfl rfl rfl
  · intro y hy
    rcases List.mem_cons.mp hy with e | e
    · rw [e]; exact hka
    · rw [List.mem_singleton.mp e]; exact hkv
  · have X1 : K.In h1 := X.keeps hk1
    have hx1 := hk1 _ _ hx
    obtain ⟨nm, q, N, bs, bm, sn, sub, ab, col, dd, k0, k1, k2, k3, k5, hC, hbm⟩ := T.cls
    have hcl : PySem.W.clsIn K C = some { name := nm, bases := bs, mro := .ref C :: bm, ns := N, qualname := q, hasDict := true, slotNames := sn, subclasses := sub, abstract := ab, collection := col, hasDel := false } := by
      unfold PySem.W.clsIn
      rw [hC]
    have lkS : ([("self", Value.ref x), (arg, v)] : List (Str × Value)).reverse.lookup (Str.ofString "self") = some (Value.ref x) := by
      have : ((Str.ofString "self") == arg) = false := by simpa using fun e : (Str.ofString "self" = arg) => harg e.symm
      simp [List.lookup_cons, this]
    have lkA : ([("self", Value.ref x), (arg, v)] : List (Str × Value)).reverse.lookup arg = some v := by
      simp [List.lookup_cons]
    have hxC : x ≠ C := fun e => by
      have z := X _ _ hC
      rw [← e, hx] at z
      cases z
    have hL : s.heap.objs.size ≠ x := Nat.ne_of_gt (Heap.lt_size hx)
    refine ks_wpAt_execs_cons (ks_wpAt_Expr_any (ks_wpAt_MethodCall (pl := _) (ks_wpAt_super_base (f := fI) (cc := cda) hks hkc (by decide) rfl (X1 _ _ hfn) rfl hp rfl (X1 _ _ hcode) rfl hvs hfile htop ?_) (sup_form hln)) rfl rfl)
    refine PySem.W.ks_loadName_global rfl hks (PySem.Calls.loadGlobal_builtin (G.keeps hk1) hsup (Bn.keeps hk1) ((bb _ (by decide +kernel)).trans (show bootBuiltins "super" = some (.type "super") by decide +kernel)) ⟨rfl, ?_⟩)
    refine wpAny_loadName_free rfl hkc rfl ⟨_, X1 _ _ hcell, rfl⟩ ?_
    rw [har]
    refine wpAny_loadName_local rfl hka hns lkS ?_
    refine ks_wpAny_isType_cls (X1 _ _ hC) rfl ⟨rfl, ?_⟩
    refine ks_wpAny_call_super (X1 _ _ hC) rfl hx1 rfl (fun c e => by cases e) (PySem.W.looks_mroIn X1 hself) fun h2 so k2 => ?_
    have X2 : K.In h2 := X1.keeps k2
    have hx2 := k2 _ _ hx1
    have I2 : PySem.W.InstAt h2 x (HandSPX.excO C t0) C none := ⟨hx2, rfl, rfl, trivial⟩
    have hmr : PySem.W.Looks (model P w) h2 (mroOf (.ref C)) (.ref C :: bm) := fun A Q E s k q => wpAny_bind ((PySem.W.looks_clsIn X2 hcl) A _ E s k (wpAny_pure q))
    have hal2 : PySem.W.alongIn K "__init__" (((Value.ref C :: bm).dropWhile (· != .ref C)).drop 1) = some (some (.builtin i)) := by
      unfold PySem.W.ks_superIn at hal
      rw [hcl] at hal
      exact hal
    refine PySem.W.kxs_getMethod eb.kx so (PySem.W.looks_opaque X2 hop) hmr rfl X2 hal2 (I2.type.andThen (PySem.W.looks_subIn X2 hB)) hxC (by decide) ?_
    refine PySem.W.kxs_callWith (i := i) (x := x) rfl (PySem.Calls.evalArgs_plain (PySem.Calls.spliced_cons (wpAny_Constant_str (k := j) (pos := p3) (PySem.Calls.spliced_nil ?_))))
    have k3' : ∀ b o, h2.get? b = some o → (h2.push (PySem.W.kxs_mw i x)).get? b = some o := fun b o e => Heap.get?_push_of_some _ e
    refine ⟨Heap.get?_push_at rfl rfl, ?_⟩
    refine sup_call eb.F (k3' _ _ (X2 _ _ hC)) (k3' _ _ hx2) (Heap.get?_push_at rfl rfl) (show 1 ≤ sizeLine by decide) fun h4 t1 k4 hx4 => ?_
    have kk : ∀ b o, b ≠ x → h1.get? b = some o → h4.get? b = some o := fun b o nb e => k4 b o nb (k3' b o (k2 b o e))
    have ns4 : h4.Ns s.heap.objs.size (fun y => ([("self", Value.ref x), (arg, v)] : List (Str × Value)).reverse.lookup y) := by
      obtain ⟨oL, es, ep, eL, r⟩ := hns
      exact ⟨oL, es, ep, kk _ _ hL eL, r⟩
    have X4 : K.In h4 := fun b o e => kk b o (fun z => by
      rw [z, hxK] at e
      cases e) (X1 _ _ e)
    refine ks_wpAt_execs_cons (ks_wpAt_Assign_Attr (wpAt_of_wpAny (wpAny_Name (wpAny_loadName_local rfl hkv ns4 lkA ?_) hdb)) rfl)
    refine wpAny_Name (wpAny_loadName_local rfl hka ns4 lkS ?_) (by decide)
    refine PySem.W.set_plain X4 (ox := HandSPX.excO C t1) (od := none) ⟨hx4, rfl, rfl, trivial⟩ T.sa ?_
    refine osaG eb X4 hx4 hcl rfl hbm rfl hno fun h' tk' dx k5' dn dne hx' hn => ?_
    refine wpAt_of_wpAny (wpAny_execs_nil ?_)
    refine h h' _ dx t1 (fun b o nb e => k5' b o nb (kk b o nb (hk1 b o e))) (Nat.le_trans ?_ dn) dne hx' hn
    obtain ⟨oL, es, ep, eL, r⟩ := ns4
    exact Nat.le_of_lt (Heap.lt_size eL)
end
end VL
namespace VL
open PySem L2
/-- an error class of the program: what the written part says of it -/
structure SupF (P : Program) (K : PySem.W.Frag) (C fI : Addr) (fld : Str) (B newId i : String) (tl : List Value) : Prop where
  eb : EB B newId i tl
  T : OexB K C newId tl
  ini : PySem.W.findIn K (.ref C) "__init__" = some (some (.ref fI))
  tI : PySem.W.typeIn K (.ref fI) = some (.type "function")
  no : PySem.W.findIn K (.ref C) fld = some none
  al : PySem.W.ks_superIn K C C "__init__" = some (some (.builtin i))
  ve : PySem.W.subIn K (.ref C) (.type B) = some true
  op : PySem.W.nsIn K cStatics "thirdparty.any" = some none
  self_ : PySem.W.mroIn K C (.ref C) = some true
  top : (P.main.scope.names.lookup ("super" : Str)).isSome = false
  fn : ∃ (oc : Value) (od : Option Addr) (osl : Array (Option Value)) (name qual arg msg : Str) (j : Nat) (p0 p1 p2 p3 p4 p5 q1 q2 q3 q4 : Pos) (params : Arguments) (names : List (Str × NameKind)) (dV kV doc pm : Value) (an : Option Addr) (cda : Addr) (ct : Value) (cc : Addr)
      (cl : Value) (cld : Option Addr) (csl : Array (Option Value)) (ccl : Value) (cdd : Option Addr) (vs : Array Value) (ccs : Array (Option Value)) (file : Str) (tf : Tok) (ar : Arg),
    K.lookup fI = some ⟨oc, od, .func (PySem.W.fnX name qual params (supBody fld arg msg j p0 p1 p2 p3 p4 p5 q1 q2 q3 q4) (fnScope names) [("__class__", cc)] dV kV doc pm an (.ref cda) ct), osl⟩ ∧ PySem.W.codeIn K (.ref cda) qual = true ∧
    K.lookup cc = some ⟨cl, cld, .cell (some (.ref C)), csl⟩ ∧ K.lookup cda = some ⟨ccl, cdd, .fields vs, ccs⟩ ∧ vs[2]? = some (.str file tf) ∧ ((P.main.file : Str) == file) = true ∧ (p2.endLine == p4.line) = true ∧
    (params.posonlyargs ++ params.args).head? = some ar ∧ ar.arg = "self" ∧ arg ≠ "self" ∧ names.lookup ("super" : Str) = some .globalImplicit ∧ names.lookup ("__class__" : Str) = some .free ∧ names.lookup ("self" : Str) = some .local ∧ names.lookup arg = some .local ∧
    (∀ y ∈ names, y.2 ≠ .cell) ∧ (arg == ("__debug__" : Str)) = false ∧
    ∀ a b : Value, bindArgs (PySem.W.fnX name qual params (supBody fld arg msg j p0 p1 p2 p3 p4 p5 q1 q2 q3 q4) (fnScope names) [("__class__", cc)] dV kV doc pm an (.ref cda) ct) ⟨[a, b], []⟩ = pure [(Str.ofString "self", a), (arg, b)] ∧
      bindArgs (PySem.W.fnX name qual params (supBody fld arg msg j p0 p1 p2 p3 p4 p5 q1 q2 q3 q4) (fnScope names) [("__class__", cc)] dV kV doc pm an (.ref cda) ct) ⟨[a], [(fld, b)]⟩ = pure [(Str.ofString "self", a), (arg, b)]
section
variable {X : Cx} {a : Expr} {p pos : Pos} {C fI : Addr} {fld x : Str} {ta : TA} {B newId i : String} {tl : List Value}
theorem pmk_sup (S : SupF X.prog X.K C fI fld B newId i tl) (hsup : X.mg "super" = none) (hr : Room 1 X.A) (hg : Gl X x) (hm : X.mg x = some (.ref C)) (ha : PA X [a] ta) (hdb : (x == ("__debug__" : Str)) = false := by decide)
    (he : starEach [a] X.env = (false, eval a X.env) :: starEach [] X.env := by rfl) (hpl : (backTo pos (starEach [] X.env)).any (·.1) = false := by rfl) :
    PMk X (.Call (.Name x p) [a] [] pos) (fun σ H Q => ta σ H fun vs H1 => ∃ v, vs = [v] ∧ ∀ d, H1 d = none → Q (.ref C) (some d) (upd H1 d (.xd [(fld, v)]))) := by
  intro pins s σ H Q I h
  have T := S.T
  obtain ⟨nm, q, N, bs, bm, sn, sub, ab, col, dd, k0, k1, k2, k3, k5, hC, hbm⟩ := id T.cls
  refine wpAny_Call_Name_kw (ld_glob I hg hm ?_ hdb)
  refine PySem.W.callWith_K (h₀ := X.base) I.ok.mod.kin T.kC (thn (ha.run pos pins s σ H _ I h) fun us s1 ⟨vs, H1, I1, r1, v, ev, q1⟩ => ⟨I1.kIn, ?_⟩) he hpl
  subst ev
  obtain ⟨u, rfl, ru⟩ : ∃ u, us = [u] ∧ RelV v u := by
    cases r1 with
    | cons a b =>
      cases b
      exact ⟨_, rfl, a⟩
  show wpAny _ _ (call (.ref C) [u]) _ _ _
  obtain ⟨hp, g, dr, tk, os⟩ := s1
  have kk : ∀ b o, hp.get? b = some o → ((hp.push (PySem.W.kdv_tup [u])).push (PySem.HandSPX.excO C hp.objs.size)).get? b = some o := fun b o e => Heap.get?_push_of_some _ (Heap.get?_push_of_some _ e)
  have hget : ((hp.push (PySem.W.kdv_tup [u])).push (PySem.HandSPX.excO C hp.objs.size)).get? (hp.objs.size + 1) = some (PySem.HandSPX.excO C hp.objs.size) := by heap_get
  have e0 := I1.env0
  have kb : ∀ b o, X.base.get? b = some o → ((hp.push (PySem.W.kdv_tup [u])).push (PySem.HandSPX.excO C hp.objs.size)).get? b = some o := fun b o e => kk b o (e0.bs b o e).1
  have hxK : X.K.lookup (hp.objs.size + 1) = none := by
    cases e : X.K.lookup (hp.objs.size + 1) with
    | none => rfl
    | some o =>
      have z := Heap.lt_size (I1.kIn _ _ e)
      have z' : hp.objs.size + 1 < hp.objs.size := z
      omega
  obtain ⟨mb, hb1, hb2⟩ := e0.mod.blt
  obtain ⟨oc, od, osl, name, qual, arg, msg, j, p0, p1, p2, p3, p4, p5, q1', q2, q3, q4, params, names, dV, kV, doc, pm, an, cda, ct, cc, cl, cld, csl, ccl, cdd, vs, ccs, file, tf, ar, f1, f2, f3, f4, f5, f6, f7, f8, f9, f10, f11, f12, f13, f14, f15, f16, f17⟩ := S.fn
  refine wpAny_call (PySem.HandSPX.call_own S.eb.F (fun Y => PySem.W.excTail_contains Y bm hbm) (I1.kIn _ _ hC) (PySem.W.looks_findIn I1.kIn S.ini) (fun self => PySem.W.bind_fn I1.kIn self S.tI) (show 1 ≤ sizeLine by decide)
    (sup_init (t0 := hp.objs.size) S.eb T (I1.kIn.keeps kk) (e0.mod.nolimit.keeps kb) (e0.mod.glob.keeps kb) (hb1.keeps kb) hb2 hsup f1 f2 f3 f4 f5 f6 f7 S.top f8 f9 f10 f11 f12 f13 f14 f15 f16 (.of_eq (f17 _ _).1) S.al S.ve S.op S.self_ S.no hget hxK (hr.make C [u] []).depth fun h' tk' dx t1 kx dn dne hx' hn => ?_))
  obtain ⟨G, g1, g2⟩ := restrict h' fun b => decide (b ≠ hp.objs.size + 1)
  have gk : ∀ b, b ≠ hp.objs.size + 1 → G.get? b = h'.get? b := fun b hb => g1 b (decide_eq_true hb)
  have ge : G.get? (hp.objs.size + 1) = none := g2 _ (by simp)
  have dn' : hp.objs.size ≤ dx := Nat.le_trans (Nat.le_of_lt (Nat.lt_of_lt_of_le (Heap.lt_size hget) (Nat.le_refl _)) |> fun z => Nat.le_trans (Nat.le_succ _) z) dn
  have hd : H1 dx = none := I1.hok.fresh dn'
  have J := I1.laid (t' := tk') (a := dx) (o := .xd [(fld, v)]) (h' := G) (fun b o e => (gk b (Nat.ne_of_lt (Nat.lt_succ_of_lt (Heap.lt_size e)))).trans (kx b o (Nat.ne_of_lt (Nat.lt_succ_of_lt (Heap.lt_size e))) (kk b o e))) dn' (by
    obtain ⟨o, es, ep, e1, e2⟩ := hn
    refine ⟨_, ⟨o, es, ep, (gk dx dne).trans e1, e2⟩, fun f => ?_⟩
    by_cases hf : f = fld
    · subst hf
      simp [List.lookup_cons]
      exact ru
    · have : (f == fld) = false := by simpa using hf
      simp [List.lookup_cons, this, hf]
      trivial)
  refine ⟨rfl, hp.objs.size + 1, _, _, _, _, .ref C, some dx, rfl, J, fun b o e => ?_, ge, hx', ⟨rfl, rfl⟩, rfl, rfl, ?_, rfl, I1.bare, raises_own T.exC T.tyC, q1 dx hd⟩
  · by_cases hb : b = hp.objs.size + 1
    · rw [hb, ge] at e
      cases e
    · exact (gk b hb).symm.trans e
  · rw [upd_ne dne.symm]
    exact I1.hok.fresh (Nat.le_succ _)
end
end VL
namespace VL
open PySem L2
section
variable {X : Cx} {B : Bs} {W : WX} {a b c : Expr} {ma mb mc : M D} {p pos pos' : Pos} {st : Stmt} {sts : List Stmt} {m k : MS}
def mRaise (C fld : Str) (m : M D) : MS := fun s K => m s (fun d s' => K.ex ⟨C, [(fld, d)]⟩ s') K.ex
/-- raise C(a) -/
theorem pms_raise {C fld : Str} {fI : Addr} {Bb nI iI : String} {tl : List Value} (S : SupF X.prog X.K (He.ga X.K C) fI fld Bb nI iI tl) (hsup : X.mg "super" = none) (hm : X.mg C = some (.ref (He.ga X.K C))) (hr : Room 1 X.A) (hc : X.calm = true) (tk : Takes X W) (ha : PM X B W a ma) (hg : Gl X C := by rfl)
    (hdb : (C == ("__debug__" : Str)) = false := by decide) (he : starEach [a] X.env = (false, eval a X.env) :: starEach [] X.env := by rfl) : PMS X B W (.Raise (some (.Call (.Name C p) [a] [] pos)) none pos') (mRaise C fld ma) := by
  refine impS (ps_raise hc tk (pmk_sup S hsup hr hg hm (pma_cons ha pma_nil he) hdb he rfl)) fun Dn σ H ⟨g, s, K, R, hm, ok⟩ => ?_
  refine ⟨g, s, fun ds s' => match ds with
    | [d] => K.ex ⟨C, [(fld, d)]⟩ s'
    | _ => False, K.ex, R, hm, fun g1 s1 H1 vs ds x1 R1 dv q => ?_, ok.x σ⟩
  cases ds with
  | nil => exact q.elim
  | cons d r =>
    cases r with
    | cons _ _ => exact q.elim
    | nil =>
      obtain ⟨v, rfl, dv1⟩ := dv.one
      refine ⟨v, rfl, fun dx hdx => ok.ex (g1.put dx (.xd [(fld, v)])) s1 σ _ _ _ _ (x1.trans (Gx.put (R1.gn hdx))) (R1.put hdx) ⟨rfl, dx, [(fld, v)], rfl, upd_same, ?_⟩ q⟩
      simp only [DVf]
      exact ⟨v, [], rfl, dv1.mono (Gx.put (R1.gn hdx)), rfl⟩
/-- a slot is forgotten -/
theorem Rel.setU {K : PySem.W.Frag} {g : Gh} {s : VS} {σ : L2.St} {H : Hp} {i : Nat} (R : Rel K B g s σ H) : Rel K B g ⟨s.e.set i .un, s.n⟩ (σ.set i none) H := by
  have noi : ∀ (j : Nat) xs, (s.e.set i .un)[j]? = some (.own xs) → i ≠ j ∧ s.e[j]? = some (.own xs) := fun j xs h => by
    by_cases e : i = j
    · subst e
      have hl : i < s.e.length := by
        have := (List.getElem?_eq_some_iff.mp h).1
        rwa [List.length_set] at this
      rw [List.getElem?_set_self hl] at h
      cases h
    · rw [List.getElem?_set_ne e] at h
      exact ⟨e, h⟩
  refine ⟨R.gh, R.ext, ?_, fun j sl o h1 h2 => ?_, fun j k xs ys h1 h2 h3 => ?_, fun a c e h => ?_, R.px, R.tb⟩
  · show (s.e.set i _).length = (σ.set i _).length
    rw [List.length_set, List.length_set]
    exact R.len
  · have h1' : (s.e.set i .un)[j]? = some sl := h1
    by_cases e : i = j
    · subst e
      have hl : i < s.e.length := by
        have := (List.getElem?_eq_some_iff.mp h1').1
        rwa [List.length_set] at this
      rw [List.getElem?_set_self hl] at h1'
      cases h1'
      trivial
    · rw [List.getElem?_set_ne e] at h1' h2
      exact R.sl j sl o h1' h2
  · obtain ⟨n1, i1⟩ := noi j xs h1
    obtain ⟨n2, i2⟩ := noi k ys h2
    rw [List.getElem?_set_ne n1, List.getElem?_set_ne n2] at h3
    exact R.ap j k xs ys i1 i2 h3
  · obtain ⟨n1, i1⟩ := noi 0 c h
    rw [List.getElem?_set_ne n1]
    exact R.me a c e i1
def sufE (i : Nat) (K : VE) : VE := ⟨fun s2 => K.nx ⟨s2.e.set i .un, s2.n⟩, K.rt, fun s2 => K.bk ⟨s2.e.set i .un, s2.n⟩, fun s2 => K.ct ⟨s2.e.set i .un, s2.n⟩, fun _ _ => False⟩
end
end VL
namespace VL
open PySem L2
/-- the interpreter's table of modules is no list -/
def SysK (K : PySem.W.Frag) : Prop := ∃ o, K.lookup sysModules = some o ∧ o.cls = .type "dict"
mutual
def pyR : D → PyData
  | .non => .none
  | .bl b => .bool b
  | .int i => .int i
  | .str x => .str x
  | .tup ds => .tuple (pyRs ds)
  | .lst ds => .list (pyRs ds)
  | .dct _ => .dict []
  | _ => .none
def pyRs : List D → List PyData
  | [] => []
  | d :: ds => pyR d :: pyRs ds
end
mutual
def okR : D → Bool
  | .non => true
  | .bl _ => true
  | .int i => decide (i.natAbs.log2 < 1920)
  | .str _ => true
  | .tup ds => okRs ds
  | .lst ds => okRs ds
  | .dct kvs => kvs.isEmpty
  | _ => false
def okRs : List D → Bool
  | [] => true
  | d :: ds => okR d && okRs ds
end
mutual
theorem okR_show : ∀ d : D, okR d = true → (pyR d).showable = true
  | .non, _ => by simp [pyR, PyData.showable]
  | .bl _, _ => by simp [pyR, PyData.showable]
  | .int _, h => by simpa [pyR, PyData.showable, okR] using h
  | .str _, _ => by simp [pyR, PyData.showable]
  | .tup ds, h => by
    simp only [pyR, PyData.showable]
    exact okRs_show ds (by simpa [okR] using h)
  | .lst ds, h => by
    simp only [pyR, PyData.showable]
    exact okRs_show ds (by simpa [okR] using h)
  | .dct _, _ => by simp [pyR, PyData.showable, PyData.showableKv]
  | .ins _ _, h => by simp [okR] at h
  | .fdc _, h => by simp [okR] at h
  | .drw, h => by simp [okR] at h
  | .scr _, h => by simp [okR] at h
  | .adr _, h => by simp [okR] at h
  | .exc _ _, h => by simp [okR] at h
theorem okRs_show : ∀ ds : List D, okRs ds = true → PyData.showableAll (pyRs ds) = true
  | [], _ => by simp [pyRs, PyData.showableAll]
  | d :: ds, h => by
    simp only [okRs, Bool.and_eq_true] at h
    simp only [pyRs, PyData.showableAll, Bool.and_eq_true]
    exact ⟨okR_show d h.1, okRs_show ds h.2⟩
end
section
variable {X : Cx} {pins : List (Addr × Obj)} {σ : L2.St} {H : Hp} {s : Shared} {g : Gh}
mutual
theorem dv_reads (I : Inv X pins σ H s) (hs : Same g.G H) (S : SysK X.K) : ∀ (d : D) (v : V) (u : Value), DV X.K g d v → okR d = true → RelV v u → ∃ as, Reads s.heap u (pyR d) as ∧ sysModules ∉ as
  | .non, _, _, h, _, r => by
    rw [h.of_n] at r
    cases r
    simp only [pyR]
    exact ⟨_, Reads.none, by simp⟩
  | .bl b, _, _, h, _, r => by
    rw [h.of_b] at r
    cases r
    simp only [pyR]
    exact ⟨_, Reads.bool b, by simp⟩
  | .int i, _, _, h, _, r => by
    rw [h.of_i] at r
    obtain ⟨t, rfl⟩ := r
    simp only [pyR]
    exact ⟨_, Reads.int i t, by simp⟩
  | .str x, _, _, h, _, r => by
    rw [h.of_s] at r
    obtain ⟨t, rfl⟩ := r
    simp only [pyR]
    exact ⟨_, Reads.str x t, by simp⟩
  | .tup ds, _, _, h, k, r => by
    obtain ⟨a, vs, rfl, h1, h2⟩ := h.of_t
    cases r
    obtain ⟨its, rv, ⟨o, ho, hc, n, hd⟩, _⟩ := I.tuple (sameT hs h1)
    obtain ⟨as, hr, hn⟩ := dvs_reads I hs S ds vs its h2 (by simpa [okR] using k) rv
    simp only [pyR]
    exact ⟨_, Reads.tuple ho hc hd hr, hn⟩
  | .lst ds, _, _, h, k, r => by
    obtain ⟨a, vs, rfl, h1, h2⟩ := h.of_l
    cases r
    obtain ⟨its, rv, ⟨o, n, ho, hc, _, hd⟩, _⟩ := I.list (SqL.of (hs _ _ h1))
    obtain ⟨as, hr, hn⟩ := dvs_reads I hs S ds vs its h2 (by simpa [okR] using k) rv
    simp only [pyR]
    refine ⟨_, Reads.list ho hc hd hr, fun z => ?_⟩
    rcases List.mem_cons.mp z with e | e
    · obtain ⟨o', e1, e2⟩ := S
      have e3 := I.kIn _ _ e1
      rw [e, ho] at e3
      cases e3
      rw [hc] at e2
      exact absurd e2 (by decide)
    · exact hn e
  | .dct kvs, _, _, h, k, r => by
    have k' : kvs = [] := by simpa [okR] using k
    subst k'
    simp only [DV, DVk] at h
    obtain ⟨a, ws, rfl, h1, rfl⟩ := h
    cases r
    obtain ⟨_, hsm, vs, kv, dd⟩ := dk_of I.hok (hs _ _ h1)
    cases kv
    obtain ⟨o, es, ep, h2, h3, h4, h5, h6, _⟩ := dd
    have e0 : es.toList = [] := by
      have := h6.length
      exact List.eq_nil_of_length_eq_zero (by simpa using this)
    simp only [pyR]
    refine ⟨_, Reads.dict (kvs := []) h2 h3.1 h4 (by rw [e0]; exact ReadsAll.nil) (by rw [e0]; exact ReadsAll.nil), fun z => ?_⟩
    have z' : sysModules = a := by simpa using z
    rw [← z'] at hsm
    simp at hsm
  | .ins _ _, _, _, _, h, _ => by simp [okR] at h
  | .fdc _, _, _, _, h, _ => by simp [okR] at h
  | .drw, _, _, _, h, _ => by simp [okR] at h
  | .scr _, _, _, _, h, _ => by simp [okR] at h
  | .adr _, _, _, _, h, _ => by simp [okR] at h
  | .exc _ _, _, _, _, h, _ => by simp [okR] at h
theorem dvs_reads (I : Inv X pins σ H s) (hs : Same g.G H) (S : SysK X.K) : ∀ (ds : List D) (vs : List V) (us : List Value), DVs X.K g ds vs → okRs ds = true → Vals vs us → ∃ as, ReadsAll s.heap us (pyRs ds) as ∧ sysModules ∉ as
  | [], _, _, h, _, r => by
    rw [h.of_nil] at r
    cases r
    simp only [pyRs]
    exact ⟨_, ReadsAll.nil, by simp⟩
  | d :: ds, _, _, h, k, r => by
    obtain ⟨v, r', rfl, h1, h2⟩ := h.of_cons
    simp only [okRs, Bool.and_eq_true] at k
    cases r with
    | cons r1 r2 =>
      obtain ⟨as, q1, n1⟩ := dv_reads I hs S d _ _ h1 k.1 r1
      obtain ⟨bs, q2, n2⟩ := dvs_reads I hs S ds _ _ h2 k.2 r2
      simp only [pyRs]
      exact ⟨_, ReadsAll.cons q1 q2, fun z => (List.mem_append.mp z).elim n1 n2⟩
end
/-- repr(x), x any data -/
def reprD (d : D) : Str := (pyR d).shown
def rRepr (K : PySem.W.Frag) : List V → Hp → VK → Prop := fun xs H Q => ∃ (g : Gh) (d : D) (v : V), xs = [v] ∧ Same g.G H ∧ DV K g d v ∧ okR d = true ∧ (pyR d).depth ≤ 60 ∧ (reprD d).length ≤ sizeLine ∧ Q (.str (reprD d)) H
theorem cr_repr (hg : X.A.guards = some []) (hu : X.A.units + 64 < cLine) (S : SysK X.K) : CallR X (.builtin "repr") (rRepr X.K) := by
  intro pins s σ H xs us Q I r h
  obtain ⟨g, d, v, rfl, hs, dv, ok, hdep, hsz, q⟩ := h
  obtain ⟨u, rfl, ru⟩ := vals1 r
  obtain ⟨as, rd, hn⟩ := dv_reads I hs S d v u dv ok ru
  have deep : ∀ a : Addr, u = .ref a → wpAny (model X.prog X.w) X.A (call (.builtin "repr") [u]) (EP X pins σ Q) X.xe s := fun a e => by
    subst e
    exact repr_of_reads' rd (okR_show d ok) (fun _ => hn) hg (by omega) (fun _ _ e => e) (fun h' u tk hk => ⟨.str _, H, I.kept (t' := tk) hk, ⟨_, rfl⟩, q⟩) hsz
  cases d with
  | non =>
    rw [dv.of_n] at ru
    cases ru
    exact PySem.P.repr_of_none ⟨.str _, H, I.tok _, ⟨_, rfl⟩, q⟩
  | bl b =>
    rw [dv.of_b] at ru
    cases ru
    exact PySem.P.repr_of_bool ⟨.str _, H, I.tok _, ⟨_, rfl⟩, q⟩
  | int i =>
    rw [dv.of_i] at ru
    obtain ⟨t, rfl⟩ := ru
    exact PySem.P.repr_of_int (by simpa [okR] using ok) ⟨.str _, H, I.tok _, ⟨_, rfl⟩, q⟩
  | str x =>
    rw [dv.of_s] at ru
    obtain ⟨t, rfl⟩ := ru
    exact PySem.P.repr_of_str ⟨.str _, H, I.tok _, ⟨_, rfl⟩, q⟩ hsz
  | tup ds =>
    obtain ⟨a, vs, rfl, _⟩ := dv.of_t
    exact deep a ru
  | lst ds =>
    obtain ⟨a, vs, rfl, _⟩ := dv.of_l
    exact deep a ru
  | dct ds =>
    simp only [DV] at dv
    obtain ⟨a, ws, rfl, _⟩ := dv
    exact deep a ru
  | ins _ _ => simp [okR] at ok
  | fdc _ => simp [okR] at ok
  | drw => simp [okR] at ok
  | scr _ => simp [okR] at ok
  | adr _ => simp [okR] at ok
  | exc _ _ => simp [okR] at ok
  | loc _ => simp [okR] at ok
def reprQ : List D → (D → Prop) → Prop
  | [d], Q => okR d = true ∧ (pyR d).depth ≤ 60 ∧ (reprD d).length ≤ sizeLine ∧ Q (.str (reprD d))
  | _, _ => False
theorem pm_repr {B : Bs} {W : WX} {a : Expr} {ma : M D} {p pos : Pos} (hgd : X.A.guards = some []) (hu : X.A.units + 64 < cLine) (S : SysK X.K) (hm : X.mg "repr" = none) (ha : PM X B W a ma) (hg : Gl X "repr" := by rfl) (hs : starEach [a] X.env = [(false, eval a X.env)] := by rfl) :
    PM X B W (.Call (.Name "repr" p) [a] [] pos) (mB reprQ (mCons ma mNil)) := by
  refine pm_cb (cr_repr hgd hu S) ?_ hg hm (by decide +kernel) (pma_cons ha pma_nil hs) (by decide) (by decide) hs
  intro g H n ds vs Qd Qv ok hd hf hk
  unfold reprQ at hf
  split at hf
  · obtain ⟨v, rfl, h1⟩ := hd.one
    obtain ⟨k1, k2, k3, q⟩ := hf
    exact ⟨g, _, v, rfl, ok.sub, h1, k1, k2, k3, hk g H _ _ (Ext.refl _ _) ok DV.s q⟩
  · exact hf.elim
end
end VL
namespace VL
open PySem PySem.Spec PyProof.Rows L2
inductive BB where
  | ve | le | oe
def BB.B : BB → String
  | .ve => "ValueError"
  | .le => "LookupError"
  | .oe => "OverflowError"
def BB.nw : BB → String
  | .ve => "ValueError.__new__"
  | .le => "LookupError.__new__"
  | .oe => "OverflowError.__new__"
def BB.ini : BB → String
  | .ve => "ValueError.__init__"
  | .le => "LookupError.__init__"
  | .oe => "OverflowError.__init__"
def BB.tl : BB → List Value
  | .ve => [.type "ValueError", .type "Exception", .type "BaseException", .type "object"]
  | .le => [.type "LookupError", .type "Exception", .type "BaseException", .type "object"]
  | .oe => [.type "OverflowError", .type "ArithmeticError", .type "Exception", .type "BaseException", .type "object"]
theorem BB.eb : ∀ b : BB, EB b.B b.nw b.ini b.tl
  | .ve => eb_VE
  | .le => eb_LE
  | .oe => eb_OE
/-- one own error class: its name, its base, its field, its parameter's name, the def of its __init__, the file -/
structure ErrD where
  C : Str
  b : BB
  fld : Str
  qual : Str
  params : Arguments
  body : List Stmt
  scope : Scope
  file : Str
abbrev ErW : Type := Option (Str × Str × Arguments × FuncBody × Scope × Addr × List Str × Addr)
def ErrD.at_ (e : ErrD) : Str × Option Str := (e.C, some "__init__")
def erW (K : PySem.W.Frag) (e : ErrD) : ErW := match K.lookup (He.fAd K e.at_) with
  | some ⟨_, _, .func fd, _⟩ => some (fd.name, fd.qualname, fd.params, fd.body, fd.scope, fd.globals, fd.closure.map (·.1), fd.builtins)
  | _ => none
def ErrD.val (e : ErrD) : ErW := some ("__init__", e.qual, e.params, .stmts e.body, e.scope, mainGlobals, ["__class__"], builtinsNs)
def oexB (K : PySem.W.Frag) (C : Addr) (nw : String) (tl : List Value) : Bool := match K.lookup C with
  | some ⟨.type ty, _, .cls cd, sl⟩ => (match cd.mro, sl.toList with
    | .ref C' :: bm, [_, _, _, _, some (.builtin n), _] => decide (ty = "type") && (decide (C' = C) && (decide (n = nw) && (!cd.hasDel && (cd.hasDict && PySem.W.excTail tl bm))))
    | _, _ => false)
  | _ => false
theorem oexB_ok {K : PySem.W.Frag} {C : Addr} {nw : String} {tl : List Value} (h : oexB K C nw tl = true) : ∃ nm q N bs bm sn sub ab col dd k0 k1 k2 k3 k5, K.lookup C = some (excClassObj nm q C N bs bm true sn sub ab col dd k0 k1 k2 k3 k5 nw) ∧ PySem.W.excTail tl bm = true := by
  unfold oexB at h
  split at h
  · rename_i ty dd cd sl ho
    split at h
    · rename_i C' bm k0 k1 k2 k3 n k5 hm hs
      simp only [Bool.and_eq_true, decide_eq_true_eq, Bool.not_eq_true'] at h
      obtain ⟨rfl, rfl, rfl, hdel, hdc, ht⟩ := h
      obtain ⟨nm, bs, mro, ns, qn, hd, sn, sub, ab, col, del⟩ := cd
      dsimp only at hm hdel hdc
      subst hm hdel hdc
      have hsl : sl = #[k0, k1, k2, k3, some (.builtin n), k5] := by
        obtain ⟨l⟩ := sl
        simp only at hs
        rw [hs]
      subst hsl
      exact ⟨nm, qn, ns, bs, bm, sn, sub, ab, col, dd, k0, k1, k2, k3, k5, ho, ht⟩
    · cases h
  · cases h
def cellB (K : PySem.W.Frag) (C : Addr) (file : Str) (fd : FuncData) : Bool := (match fd.closure with
  | [(_, cc)] => (match K.lookup cc with
    | some ⟨_, _, .cell (some (.ref a)), _⟩ => decide (a = C)
    | _ => false)
  | _ => false) && (match fd.code with
  | .ref cda => (match K.lookup cda with
    | some ⟨_, _, .fields vs, _⟩ => (match (vs[2]? : Option Value) with
      | some (.str f _) => decide (f = file)
      | _ => false)
    | _ => false)
  | _ => false)
def ErrD.ok (K : PySem.W.Frag) (e : ErrD) : Bool :=
  oexB K (He.ga K e.C) e.b.nw e.b.tl && (He.eqO (PySem.W.findIn K (.ref (He.ga K e.C)) "__setattr__") (some (some (.builtin "object.__setattr__"))) && (decide (PySem.W.subIn K (.ref (He.ga K e.C)) (.type "BaseException") = some true) &&
  (decide (PySem.W.typeIn K (.ref (He.ga K e.C)) = some (.type "type")) && (PySem.W.keepIn K (.ref (He.ga K e.C)) && (He.eqO (PySem.W.findIn K (.ref (He.ga K e.C)) "__init__") (some (some (.ref (He.fAd K e.at_)))) &&
  (decide (PySem.W.typeIn K (.ref (He.fAd K e.at_)) = some (.type "function")) && (He.eqO (PySem.W.findIn K (.ref (He.ga K e.C)) e.fld) (some none) && (He.eqO (PySem.W.ks_superIn K (He.ga K e.C) (He.ga K e.C) "__init__") (some (some (.builtin e.b.ini))) &&
  (decide (PySem.W.subIn K (.ref (He.ga K e.C)) (.type e.b.B) = some true) && (decide (PySem.W.mroIn K (He.ga K e.C) (.ref (He.ga K e.C)) = some true) && (xfB K (He.ga K e.C) && (match K.lookup (He.fAd K e.at_) with
  | some ⟨_, _, .func fd, _⟩ => PySem.W.codeIn K fd.code e.qual && (He.dflB K fd.defaults [] && cellB K (He.ga K e.C) e.file fd)
  | _ => false))))))))))))
/-- what the text of the def says -/
def SupT (e : ErrD) : Prop := ∃ (arg msg : Str) (j : Nat) (p0 p1 p2 p3 p4 p5 q1 q2 q3 q4 : Pos) (names : List (Str × NameKind)) (ar : Arg),
  e.body = supBody e.fld arg msg j p0 p1 p2 p3 p4 p5 q1 q2 q3 q4 ∧ e.scope = fnScope names ∧ (p2.endLine == p4.line) = true ∧
    (e.params.posonlyargs ++ e.params.args).head? = some ar ∧ ar.arg = "self" ∧ arg ≠ "self" ∧ names.lookup ("super" : Str) = some .globalImplicit ∧ names.lookup ("__class__" : Str) = some .free ∧ names.lookup ("self" : Str) = some .local ∧ names.lookup arg = some .local ∧
    (∀ y ∈ names, y.2 ≠ .cell) ∧ (arg == ("__debug__" : Str)) = false ∧
    ∀ (name qual : Str) (body : List Stmt) (scope : Scope) (cl : List (Str × Addr)) (kV doc pm : Value) (an : Option Addr) (cdv ct a b : Value), bindArgs (PySem.W.fnX name qual e.params body scope cl .none kV doc pm an cdv ct) ⟨[a, b], []⟩ = pure [(Str.ofString "self", a), (arg, b)] ∧ bindArgs (PySem.W.fnX name qual e.params body scope cl .none kV doc pm an cdv ct) ⟨[a], [(e.fld, b)]⟩ = pure [(Str.ofString "self", a), (arg, b)]
def sysB (K : PySem.W.Frag) : Bool := (match K.lookup sysModules with
  | some ⟨.type c, _, _, _⟩ => decide (c = "dict")
  | _ => false) && He.eqO (PySem.W.nsIn K cStatics "thirdparty.any") (some none)
theorem sysB_ok {K : PySem.W.Frag} (h : sysB K = true) : SysK K ∧ PySem.W.nsIn K cStatics "thirdparty.any" = some none := by
  obtain ⟨h1, h2⟩ := He.ba h
  refine ⟨?_, He.eqO_ok h2⟩
  split at h1
  · rename_i q
    exact ⟨_, q, congrArg Value.type (of_decide_eq_true h1)⟩
  · cases h1
theorem ErrD.supF {P : Program} {K : PySem.W.Frag} {e : ErrD} (hw : erW K e = e.val) (ho : e.ok K = true) (ht : SupT e) (hs : sysB K = true) (hf : (P.main.file == e.file) = true) (htop : (P.main.scope.names.lookup ("super" : Str)).isSome = false) :
    SupF P K (He.ga K e.C) (He.fAd K e.at_) e.fld e.b.B e.b.nw e.b.ini e.b.tl ∧ XfC K (He.ga K e.C) := by
  unfold ErrD.ok at ho
  simp only [Bool.and_eq_true, decide_eq_true_eq] at ho
  obtain ⟨o1, o2, o3, o4, o5, o6, o7, o8, o9, o10, o11, o12, o13⟩ := ho
  refine ⟨⟨e.b.eb, ⟨oexB_ok o1, He.eqO_ok o2, o3, o4, o5⟩, He.eqO_ok o6, o7, He.eqO_ok o8, He.eqO_ok o9, o10, (sysB_ok hs).2, o11, htop, ?_⟩, xfB_ok o12⟩
  unfold erW at hw
  cases q : K.lookup (He.fAd K e.at_) with
  | none =>
    rw [q] at o13
    cases o13
  | some o =>
    obtain ⟨oc, od, dt, osl⟩ := o
    rw [q] at o13 hw
    cases dt with
    | func fd =>
      obtain ⟨n1, n2, n3, n4, n5, n6, n7, n8, n9, n10, n11, n12, n13, n14, n15⟩ := fd
      have e2 : (some (n1, n2, n3, n4, n5, n6, n7.map (·.1), n15) : ErW) = e.val := hw
      unfold ErrD.val at e2
      simp only [Option.some.injEq, Prod.mk.injEq] at e2
      obtain ⟨h1, h2, h3, h4, h5, h6, h7, h8⟩ := e2
      subst h1 h2 h3 h4 h5 h6 h8
      simp only [Bool.and_eq_true] at o13
      obtain ⟨c1, c0, c2⟩ := o13
      have c0' : n8 = .none := by
        cases n8 <;> first | rfl | cases c0
      subst c0'
      unfold cellB at c2
      simp only [Bool.and_eq_true] at c2
      obtain ⟨c2, c3⟩ := c2
      cases n7 with
      | nil => cases c2
      | cons p r =>
        cases r with
        | cons _ _ => cases c2
        | nil =>
          obtain ⟨pn, cc⟩ := p
          have epn : pn = "__class__" := by simpa using h7
          subst epn
          dsimp only at c2 c3 c1
          split at c2
          · rename_i cl cld a csl hcc
            have ea : a = He.ga K e.C := of_decide_eq_true c2
            subst ea
            cases n13 with
            | ref cda =>
              dsimp only at c3
              split at c3
              · rename_i ccl cdd vs ccs hcda
                split at c3
                · rename_i f tf hv
                  have ef : f = e.file := of_decide_eq_true c3
                  obtain ⟨arg, msg, j, p0, p1, p2, p3, p4, p5, q1, q2, q3, q4, names, ar, t1, t2, t3, t4, t5, t6, t7, t8, t9, t10, t11, t12, t13⟩ := ht
                  refine ⟨oc, od, osl, Str.ofString "__init__", e.qual, arg, msg, j, p0, p1, p2, p3, p4, p5, q1, q2, q3, q4, e.params, names, .none, n9, n10, n11, n12, cda, n14, cc, cl, cld, csl, ccl, cdd, vs, ccs, f, tf, ar, ?_, c1, hcc, hcda, hv, ?_, t3, t4, t5, t6, t7, t8, t9, t10, t11, t12, fun a b => t13 _ _ _ _ _ _ _ _ _ _ _ a b⟩
                  · rw [← t1, ← t2]
                  · rw [ef]
                    exact hf
                · cases c3
              · cases c3
            | _ => cases c3
          · cases c2
    | _ => cases o13
abbrev AlX : Type := Bool × List He.FnW × List ErW
def obsX (fa : List He.Fa) (fn : List He.DefD) (er : List ErrD) (xf : PySem.W.Frag → Bool) (K : PySem.W.Frag) : AlX := ((fa.all fun f => f.ok K) && ((fn.all fun d => d.ok K) && ((er.all fun e => e.ok K) && (sysB K && xf K))), fn.map fun d => He.fnW K d.at_, er.map fun e => erW K e)
def valX (fn : List He.DefD) (er : List ErrD) : AlX := (true, fn.map He.DefD.val, er.map ErrD.val)
def SaysX (fa : List He.Fa) (fn : List He.DefD) (er : List ErrD) (xf : PySem.W.Frag → Bool) (K : PySem.W.Frag) : Prop := obsX fa fn er xf K = valX fn er
section
variable {fa : List He.Fa} {fn : List He.DefD} {er : List ErrD} {xf : PySem.W.Frag → Bool} {K : PySem.W.Frag}
theorem SaysX.all (c : SaysX fa fn er xf K) : (fa.all fun f => f.ok K) = true ∧ (fn.all fun d => d.ok K) = true ∧ (er.all fun e => e.ok K) = true ∧ sysB K = true ∧ xf K = true := by
  have c1 : ((fa.all fun f => f.ok K) && ((fn.all fun d => d.ok K) && ((er.all fun e => e.ok K) && (sysB K && xf K)))) = true := congrArg (fun z : AlX => z.1) c
  obtain ⟨a1, c2⟩ := He.ba c1
  obtain ⟨a2, c3⟩ := He.ba c2
  obtain ⟨a3, c4⟩ := He.ba c3
  obtain ⟨a4, a5⟩ := He.ba c4
  exact ⟨a1, a2, a3, a4, a5⟩
theorem SaysX.fact (c : SaysX fa fn er xf K) (i : Nat) {f : He.Fa} (h : fa[i]? = some f := by rfl) : f.ok K = true := List.all_eq_true.mp c.all.1 f (List.mem_of_getElem? h)
theorem SaysX.sys (c : SaysX fa fn er xf K) : SysK K := (sysB_ok c.all.2.2.2.1).1
theorem SaysX.def_ (c : SaysX fa fn er xf K) (i : Nat) {d : He.DefD} (h : fn[i]? = some d := by rfl) : ∃ fd, FunD K d.name d.qual d.params d.body d.scope (d.dvs K) (d.kws K) (He.fAd K d.at_) fd := by
  have e : fn.map (fun d => He.fnW K d.at_) = fn.map He.DefD.val := congrArg (fun z : AlX => z.2.1) c
  have e2 : (fn.map fun d => He.fnW K d.at_)[i]? = (fn.map He.DefD.val)[i]? := by rw [e]
  rw [List.getElem?_map, List.getElem?_map, h] at e2
  exact He.DefD.funD (Option.some.inj e2) (List.all_eq_true.mp c.all.2.1 d (List.mem_of_getElem? h))
theorem SaysX.err (c : SaysX fa fn er xf K) (i : Nat) {e : ErrD} (h : er[i]? = some e := by rfl) {P : Program} (ht : SupT e) (hf : (P.main.file == e.file) = true) (htop : (P.main.scope.names.lookup ("super" : Str)).isSome = false) :
    SupF P K (He.ga K e.C) (He.fAd K e.at_) e.fld e.b.B e.b.nw e.b.ini e.b.tl ∧ XfC K (He.ga K e.C) := by
  have q : er.map (fun d => erW K d) = er.map ErrD.val := congrArg (fun z : AlX => z.2.2) c
  have e2 : (er.map fun d => erW K d)[i]? = (er.map ErrD.val)[i]? := by rw [q]
  rw [List.getElem?_map, List.getElem?_map, h] at e2
  exact ErrD.supF (Option.some.inj e2) (List.all_eq_true.mp c.all.2.2.1 e (List.mem_of_getElem? h)) ht c.all.2.2.2.1 hf htop
end
end VL
namespace VL
open PySem PySem.Spec PyProof.Rows L2
section
variable {X : Cx} {pins : List (Addr × Obj)} {σ : L2.St} {H : Hp} {s : Shared}
theorem exA_ok {P : Program} {w : World} {H : Hp} {h : Heap} {a C d : Addr} {o : Obj} {vs : Array Value} (e : h.get? a = some o) (c : o.cls = .ref C) (hd : o.dict = some d) (hv : o.data = .fields vs) : ObjOk P w H h a (exA a C d) :=
  ⟨⟨o, vs, e, c, hd, hv⟩, ⟨_, e⟩, fun h1 h2 z k => by
    obtain ⟨o, vs, q, r⟩ := z
    exact ⟨o, vs, k _ q, r⟩⟩
theorem exA_at {P : Program} {w : World} {H : Hp} {h : Heap} {a C d : Addr} (ok : HOk P w H h) (e : H a = some (exA a C d)) : ∃ (o : Obj) (vs : Array Value), h.get? a = some o ∧ o.cls = .ref C ∧ o.dict = some d ∧ o.data = .fields vs := by
  have x : ObjOk P w H h a (.ext fun h => ∃ (o : Obj) (vs : Array Value), h.get? a = some o ∧ o.cls = .ref C ∧ o.dict = some d ∧ o.data = .fields vs) := ok a _ e
  exact x.1
/-- an object that lies there is tracked from now on -/
theorem Inv.track {a : Addr} {ob : Obj} {o : HO} (I : Inv X pins σ H s) (ha : s.heap.get? a = some ob) (na : H a = none) (n0 : X.s_0.heap.get? a = none) (nL : a ≠ X.env.locals) (np : ∀ p ∈ X.pn ++ pins, p.1 ≠ a) (nc : ∀ v, ob.data ≠ .cell v)
    (new : ObjOk X.prog X.w (upd H a o) s.heap a o) : Inv X pins σ (upd H a o) s := by
  have at_ : ∀ b, b ≠ a → upd H a o b = H b := fun b hb => upd_ne hb
  have sm : ∀ b u, H b = some u → b ≠ a := fun b u e => ne_of_none e na
  refine ⟨I.ok, I.os, I.bare, ⟨I.base.keep, I.base.slot, fun b u e n x => ?_, I.base.there, fun b xs e => ?_, fun b u r e => ?_, fun b ps e => ?_⟩, I.loc, I.cell, ?_, fun x c e => ?_, fun p hp => ?_, I.hok.laidN (fun _ _ z => z) na new, I.len⟩
  · rw [at_ b (fun z => by rw [z, n0] at e; cases e)]
    exact I.base.free b u e n x
  · have q := I.base.tups b xs e
    rw [at_ b (sm _ _ q)]
    exact q
  · have q := I.base.frzs b u r e
    rw [at_ b (sm _ _ q)]
    exact q
  · obtain ⟨more, q⟩ := I.base.tbls b ps e
    exact ⟨more, by rw [at_ b (sm _ _ q)]; exact q⟩
  · rw [at_ _ nL.symm]
    exact I.free
  · rw [at_ c (fun z => ?_)]
    · exact I.freeC x c e
    · obtain ⟨v, ob', h1, h2⟩ := I.cell x c e
      rw [z, ha] at h1
      cases h1
      exact nc _ h2
  · obtain ⟨h1, h2, h3⟩ := I.pin p hp
    exact ⟨h1, by rw [at_ _ (np p hp)]; exact h2, h3⟩
theorem Inv.suite0 (I : Inv X pins σ H s) (a : Addr) : Inv (X.suite a (X.pn ++ pins)) [] σ H s :=
  ⟨I.ok.suite _ _, I.os, I.bare, I.base, I.loc, I.cell, I.free, I.freeC, fun p hp => I.pin p (by rw [List.append_nil] at hp; exact hp), I.hok, I.len⟩
theorem Inv.unsuite0 {a : Addr} {pn' : List (Addr × Obj)} (I : Inv (X.suite a (X.pn ++ pins)) pn' σ H s) (ok : X.Ok) : Inv X pins σ H s :=
  ⟨ok, I.os, I.bare, I.base, I.loc, I.cell, I.free, I.freeC, fun p hp => I.pin p (List.mem_append_left _ hp), I.hok, I.len⟩
/-- the clauses: class, the name's slot, the suite's reading -/
def endT (i : Nat) (D : Ends) : Ends := { nx := fun σ' H' => D.nx (σ'.set i none) H', rt := D.rt, bk := fun σ' H' => D.bk (σ'.set i none) H', ct := fun σ' H' => D.ct (σ'.set i none) H' }
def wT (K : PySem.W.Frag) (Wout : WX) (D : Ends) : List (List Value × Nat × TS) → WX
  | [] => Wout
  | (cs, i, ts) :: r => fun cls d σ H => ∃ b, PySem.W.exmAny K cls cs = some b ∧
      (b = true → ∃ C dd, cls = .ref C ∧ d = some dd ∧ ∀ a, H a = none → ts (endT i D) (σ.set i (some (.ref a))) (upd H a (exA a C dd))) ∧ (b = false → wT K Wout D r cls d σ H)
/-- what a clause's classes are, read and tried -/
def TestX (X : Cx) (te : Expr) (cs : List Value) : Prop := ∀ (a : Addr) (pn : List (Addr × Obj)) (σ : L2.St) (H : Hp) (s : Shared) (cls : Value) (b : Bool) (Q : Bool → Shared → Prop) (E E' : Value → Shared → Prop), Inv (X.suite a pn) [] σ H s → PySem.W.Looks (model X.prog X.w) s.heap (typeOf (.ref a)) cls →
  PySem.W.exmAny X.K cls cs = some b → (∀ h', (∀ q o, s.heap.get? q = some o → h'.get? q = some o) → Q b { s with heap := h' }) →
  wpAny (model X.prog X.w) (X.A.mark (some (.ref a))) (eval te X.env) (fun c s₁ => wpAny (model X.prog X.w) (X.A.mark (some (.ref a))) (excMatches (.ref a) c) Q E s₁) E' s
theorem FlyingZ.keeps {base h h' : Heap} {l : List Env} {e : Addr} {Z : Obj → Prop} (R : HandSPX.FlyingZ base l e Z h) (k : ∀ b o, h.get? b = some o → h'.get? b = some o) : HandSPX.FlyingZ base l e Z h' := by
  obtain ⟨f1, f2, f3, oe, vs, T, oT, ts, he, hz, hd, h1, hn, hne, hT, hdT, h3⟩ := R
  exact ⟨fun b o q => k b o (f1 b o q), f2, f3.of_keeps fun b o q _ => ⟨o, k b o q, rfl⟩, oe, vs, T, oT, ts, k _ _ he, hz, hd, h1, hn, hne, k _ _ hT, hdT, h3⟩
inductive HdsT (X : Cx) : List ExceptHandler → List (List Value × Nat × TS) → Prop
  | nil : HdsT X [] []
  | cons {te : Expr} {n : Str} {cs : List Value} {i : Nat} {ts : TS} {b₀ : Stmt} {suite : List Stmt} {pos' : Pos} {hds : List ExceptHandler} {l : List (List Value × Nat × TS)} (hc : TestX X te cs) (hi : X.N[i]? = some n) (hln : X.env.kindOf n = some .local)
      (hsu : ∀ (a : Addr) (pn : List (Addr × Obj)), PSs (X.suite a pn) (b₀ :: suite) ts) (r : HdsT X hds l) :
      HdsT X (.ExceptHandler (some te) (some n) (b₀ :: suite) pos' :: hds) ((cs, i, ts) :: l)
theorem exmAny_one {K : PySem.W.Frag} {cls c : Value} {b : Bool} (h : PySem.W.exmAny K cls [c] = some b) : PySem.W.exmOne K cls c = some b := by
  obtain ⟨b1, d1, h1, h2, h3⟩ := PySem.W.exmAny_cons h
  have h2' : some false = some d1 := h2
  cases h2'
  rw [h3, Bool.or_false]
  exact h1
theorem ld_names {a : Addr} {pn : List (Addr × Obj)} {x : Str} {c : Value} {np : Pos} {Q : Value → Shared → Prop} {E : Value → Shared → Prop} (I : Inv (X.suite a pn) [] σ H s) (hc : Names X x c) (q : Q c s) : wpAny (model X.prog X.w) (X.A.mark (some (.ref a))) (eval (.Name x np) X.env) Q E s := by
  obtain ⟨hg, hdbg, hm | ⟨hm, hv, hnn⟩⟩ := hc
  · exact ld_glob (X := X.suite a pn) I hg hm q hdbg
  · exact ld_blt (X := X.suite a pn) I hg hm hv q hnn hdbg
theorem test_one {x : Str} {c : Value} {np : Pos} (hc : Names X x c) : TestX X (.Name x np) [c] := fun a pn σ H s cls b Q E E' I LT hx q =>
  ld_names I hc ((PySem.W.exm_one (M := model X.prog X.w) I.kIn LT (exmAny_one hx)).here (q s.heap fun _ _ z => z))
theorem test_two {x1 x2 : Str} {c1 c2 : Value} {p1 p2 tpos : Pos} {kk : Nat} (n1 : Names X x1 c1) (n2 : Names X x2 c2) : TestX X (.Tuple [.Name x1 p1, .Name x2 p2] kk tpos) [c1, c2] := fun a pn σ H s cls b Q E E' I LT he q => by
  refine wpAny_Tuple ?_
  refine wpAny_items_cons (ld_names I n1 ?_)
  refine wpAny_items_cons (ld_names I n2 ?_)
  refine wpAny_items_nil ⟨by size_fits, ?_⟩
  have kp : ∀ q o, s.heap.get? q = some o → (s.heap.push { cls := .type "tuple", data := .seq [c1, c2].toArray }).get? q = some o := fun _ _ z => Heap.get?_push_of_some _ z
  exact (PySem.W.exm_tup2 (I.kIn.keeps kp) (LT.keeps kp) (Heap.get?_push_size s.heap rfl) he).here (q _ kp)
theorem test_three {x1 x2 x3 : Str} {c1 c2 c3 : Value} {p1 p2 p3 tpos : Pos} {kk : Nat} (n1 : Names X x1 c1) (n2 : Names X x2 c2) (n3 : Names X x3 c3) : TestX X (.Tuple [.Name x1 p1, .Name x2 p2, .Name x3 p3] kk tpos) [c1, c2, c3] := fun a pn σ H s cls b Q E E' I LT he q => by
  refine wpAny_Tuple ?_
  refine wpAny_items_cons (ld_names I n1 ?_)
  refine wpAny_items_cons (ld_names I n2 ?_)
  refine wpAny_items_cons (ld_names I n3 ?_)
  refine wpAny_items_nil ⟨by size_fits, ?_⟩
  have kp : ∀ q o, s.heap.get? q = some o → (s.heap.push { cls := .type "tuple", data := .seq [c1, c2, c3].toArray }).get? q = some o := fun _ _ z => Heap.get?_push_of_some _ z
  exact (PySem.W.exm_tup3 (I.kIn.keeps kp) (LT.keeps kp) (Heap.get?_push_size s.heap rfl) he).here (q _ kp)
variable {body : List Stmt} {h₀ : ExceptHandler} {hds : List ExceptHandler} {l : List (List Value × Nat × TS)} {pos : Pos} {tb : WX → TS} {Wout : WX}
theorem ps_tryT (hs : X.stack = X.env :: X.outer) (hf : X.env.frame = some X.env.locals) (hex : X.ex = []) (hN : X.N.Nodup) (tk : Takes X Wout)
    (hb : ∀ (W : WX) (pn : List (Addr × Obj)) (xe : Value → Shared → Prop), Takes (X.tr pn xe) W → PassesOwn (model X.prog X.w) X.A X.env xe → PSs (X.tr pn xe) body (tb W))
    (hh : HdsT X (h₀ :: hds) l) : PS X (.Try body (h₀ :: hds) [] [] pos) (fun D σ H => tb (wT X.K Wout D l) D σ H) := by
  refine ⟨fun pins s σ H D I h => ?_⟩
  have ok := I.ok
  have fr0 : X.A.frames = some (X.env :: X.outer) := by rw [ok.frames, hs]
  refine wpAny_Try_except ?_
  refine wpAny_mono ((hb (wT X.K Wout D l) (X.pn ++ pins) (fun e s₁ => wpAny (model X.prog X.w) X.A (noteFrame e X.env) (fun _ s₂ => wpAny (model X.prog X.w) X.A (setFlight e none) (fun _ s₃ =>
    wpAny (model X.prog X.w) X.A (handleBy e X.env (h₀ :: hds)) (SP X pins D) X.xe s₃) X.xe s₂) X.xe s₁) (fun u s' xx => ?_) PassesOwn.looking).run [] s σ H D (I.toTry _) h) (fun f s1 hsp => ?_) (fun e s1 he => he)
  · obtain ⟨a, B, sI, pins', σ', H', cls, d, rfl, J', nb, up, sky, na, os, ag, w⟩ := xx
    have J : Inv X pins σ' H' sI := J'.ofTry ok
    have sky' : Sky B (X.env :: X.outer) a (Zc cls d) X.env.locals s'.heap := by rw [← hs]; exact sky
    show wpAny (model X.prog X.w) X.A (noteFrame (.ref a) X.env) _ _ _
    refine Sky.land Zc.steady fr0 hf sky' fun h3 fl3 up3 => ?_
    have J3 : Inv X pins σ' H' { s' with heap := h3 } := J.landed nb fl3.1 (up.trans up3) os ag
    obtain ⟨oe3, vs3, he3, hz3, hd3⟩ := fl3.there
    have nfr : a ∉ frs (X.env :: X.outer) := fun hm => by
      obtain ⟨_, o', e', hnf⟩ := fl3.2.2.1.mem hm
      rw [he3] at e'
      cases e'
      exact hnf _ hd3
    have nL : a ≠ X.env.locals := fun z => nfr (List.mem_filterMap.mpr ⟨X.env, List.mem_cons_self, by rw [hf, z]⟩)
    have nF : a ∉ X.fs := fun hm => by
      obtain ⟨e, he, q⟩ := List.mem_filterMap.mp hm
      exact nfr (List.mem_filterMap.mpr ⟨e, List.mem_cons_of_mem _ he, q⟩)
    have nI : sI.heap.get? a = none := by
      cases e : sI.heap.get? a with
      | none => rfl
      | some o =>
        have z := nb a o e (by rw [hs]; exact nfr)
        rw [fl3.2.1] at z
        cases z
    have n0 : X.s_0.heap.get? a = none := by
      cases e : X.s_0.heap.get? a with
      | none => rfl
      | some o =>
        obtain ⟨o', z⟩ := J.base.there a o e (by rw [hex]; simp)
        rw [nI] at z
        cases z
    have np : ∀ p ∈ X.pn ++ pins, p.1 ≠ a := fun p hp z => by
      have q := (J.pin p hp).1
      rw [z, nI] at q
      cases q
    have go : ∀ {hds' : List ExceptHandler} {l' : List (List Value × Nat × TS)}, HdsT X hds' l' → wT X.K Wout D l' cls d σ' H' → ∀ h3, HandSPX.FlyingZ B (X.env :: X.outer) a (Zc cls d) h3 → s'.heap.UpToSlots h3 →
        wpAny (model X.prog X.w) X.A (handleBy (.ref a) X.env hds') (SP X pins D) X.xe { s' with heap := h3 } := by
      intro hds' l' hk
      induction hk with
      | nil =>
        intro w h3 fl3 up3
        refine wpAny_handleBy_nil ?_
        obtain ⟨k1, k2, k3, oe, vs, T, oT, ts', he, hz, hd, h1, hr⟩ := id fl3
        unfold PySem.passOn
        refine wpAny_bind (wpAny_field he hd h1 ?_)
        rw [if_neg (show ¬ ((Value.ref T == Value.none) = true) from by simp)]
        have fin : wpAny (model X.prog X.w) X.A (setFlight (.ref a) X.env.frame) (fun _ s4 => wpAny (model X.prog X.w) X.A (throw (.ref a) : Sem Flow) (SP X pins D) X.xe s4) X.xe { s' with heap := h3 } := by
          rw [hf]
          refine HandSPX.setFlight_upZ fl3 fun h4 hh4 up4 => wpAny_throw (tk _ _ ?_)
          exact ⟨a, B, sI, pins, σ', H', cls, d, rfl, J, nb, (up.trans up3).trans up4, .inr (.inr (by rw [hs]; exact hh4)), na, os, ag, w⟩
        first
          | exact wpAny_bind (wpAny_pure (wpAny_bind fin))
          | exact wpAny_bind fin
      | @cons te n cs i ts b₀ suite pos' hds2 l2 hc hi hln hsu r ih =>
        intro w h30 fl30 up30
        obtain ⟨b, hb1, hyes, hno⟩ := w
        have J30 : Inv X pins σ' H' { s' with heap := h30 } := J.landed nb fl30.1 (up.trans up30) os ag
        obtain ⟨oe30, vs30, he30, hz30, hd30⟩ := fl30.there
        have S30 := J30.suite he30 hd30 na nL nF
        refine wpAny_handleBy_cons (codeAny_handlers_test ?_) (by intro q; cases q)
        have LT : PySem.W.Looks (model X.prog X.w) h30 (typeOf (.ref a)) cls := fun A Q E s k q => wpAny_typeOf_ref (k _ _ he30) (by rw [hz30.1]; exact q)
        refine hc a _ σ' H' { s' with heap := h30 } cls b _ _ _ S30 LT hb1 fun h3 kp => ?_
        have fl3 := FlyingZ.keeps fl30 kp
        have up3 : s'.heap.UpToSlots h3 := up30.trans (Heap.UpToSlots.of_keeps kp)
        dsimp only
        cases b with
        | true =>
          refine codeAny_handlers_suite_as ?_
          refine HandSPX.lands_againZ fl3 fun h4 fl4 up4 => ?_
          have J4 : Inv X pins σ' H' { s' with heap := h4 } := J.landed nb fl4.1 ((up.trans up3).trans up4) os ag
          obtain ⟨oe4, vs4, he4, hz4, hd4⟩ := fl4.there
          obtain ⟨C, dd, ec, ed, hts⟩ := hyes rfl
          have J5 : Inv X pins σ' (upd H' a (exA a C dd)) { s' with heap := h4 } := Inv.track J4 he4 na n0 nL np (fun v z => by rw [hd4] at z; cases z) (exA_ok he4 (hz4.1.trans ec) (hz4.2.trans ed) hd4)
          have S5 := Inv.suite0 J5 a
          refine store_ok (X := X.suite a (X.pn ++ pins)) (v := .ref a) S5 hN hi (.inl hln) rfl (fun s5 S6 => ?_) (.inr hln)
          refine wpAny_mono ((hsu a (X.pn ++ pins)).run [] s5 _ _ _ S6 (hts a na)) (fun f s6 hsp => ?_) (fun _ _ z => False.elim z)
          have end_ : ∀ {σ6 : L2.St} {H6 : Hp} {Q : Shared → Prop}, Inv (X.suite a (X.pn ++ pins)) [] σ6 H6 s6 → (∀ s7, Inv X pins (σ6.set i none) H6 s7 → Q s7) →
              wpAny (model X.prog X.w) X.A (do bindName X.env n .none; unbindBehindTheSuite X.env n pos') (fun _ s7 => Q s7) X.xe s6 := fun {σ6 H6 Q} S6 hq => gone_ok (Inv.unsuite0 S6 ok) hN hi hln hq
          cases f with
          | next =>
            obtain ⟨σ6, H6, S6, q6⟩ := hsp
            exact end_ S6 fun s7 J7 => ⟨_, _, J7, q6⟩
          | brk =>
            obtain ⟨σ6, H6, S6, q6⟩ := hsp
            exact end_ S6 fun s7 J7 => ⟨_, _, J7, q6⟩
          | cont =>
            obtain ⟨σ6, H6, S6, q6⟩ := hsp
            exact end_ S6 fun s7 J7 => ⟨_, _, J7, q6⟩
          | ret u =>
            obtain ⟨v6, σ6, H6, S6, r6, q6⟩ := hsp
            exact end_ S6 fun s7 J7 => ⟨_, _, _, J7, r6, q6⟩
        | false =>
          show wpAny _ X.A (handleBy (.ref a) X.env hds2) _ _ _
          exact ih (hno rfl) h3 fl3 up3
    exact go hh w h3 fl3 up3
  · cases f with
    | next =>
      obtain ⟨σ', H', J', q⟩ := hsp
      exact wpAny_execs_nil ⟨σ', H', J'.ofTry ok, q⟩
    | brk =>
      obtain ⟨σ', H', J', q⟩ := hsp
      exact ⟨σ', H', J'.ofTry ok, q⟩
    | cont =>
      obtain ⟨σ', H', J', q⟩ := hsp
      exact ⟨σ', H', J'.ofTry ok, q⟩
    | ret u =>
      obtain ⟨v, σ', H', J', r, q⟩ := hsp
      exact ⟨v, σ', H', J'.ofTry ok, r, q⟩
end
end VL
namespace VL
open PySem PySem.Spec PyProof.Rows L2
section
variable {X : Cx} {B : Bs} {W : WX} {a b c : Expr} {ma mb mc : M D} {p pos pos' : Pos} {st : Stmt} {sts : List Stmt} {m k : MS}
abbrev Cls1 := List Str × Nat × MS
def hdX (sub : Str → Str → Bool) : List Cls1 → VE → Exn → VS → Prop
  | [], K, x, s => K.ex x s
  | (cs, i, m) :: r, K, x, s => if cs.any (sub x.C) = true then m ⟨s.e.set i (.dat (.exc x.C x.fs)), s.n⟩ (sufE i K) else hdX sub r K x s
/-- try: body / except C as n: suite ..; L: the classes that may come, sub: which is below which -/
def mTryT (L : List Str) (sub : Str → Str → Bool) (cl : List Cls1) (body : MS) : MS := fun s K => body s { K with ex := fun x s' => x.C ∈ L ∧ hdX sub cl K x s' }
def clV (K : PySem.W.Frag) (B : Bs) (cl : List Cls1) : List (List Value × Nat × TS) := cl.map fun q => (q.1.map fun c => .ref (He.ga K c), q.2.1, rdS K B W0 q.2.2)
/-- the classes' facts -/
def SubF (K : PySem.W.Frag) (L : List Str) (sub : Str → Str → Bool) (cs : List Str) : Prop := ∀ C' ∈ L, ∀ c ∈ cs, PySem.W.exmOne K (.ref (He.ga K C')) (.ref (He.ga K c)) = some (sub C' c)
theorem exmAny_sub {K : PySem.W.Frag} {C' : Str} {sub : Str → Str → Bool} : ∀ {cs : List Str}, (∀ c ∈ cs, PySem.W.exmOne K (.ref (He.ga K C')) (.ref (He.ga K c)) = some (sub C' c)) → PySem.W.exmAny K (.ref (He.ga K C')) (cs.map fun c => .ref (He.ga K c)) = some (cs.any (sub C'))
  | [], _ => rfl
  | c :: cs, h => by
    have h1 := h c (by simp)
    have h2 := exmAny_sub (cs := cs) fun c' hc => h c' (by simp [hc])
    simp only [List.map_cons, PySem.W.exmAny, h1, h2, List.any_cons]
theorem exc_in {g1 : Gh} {s1 : VS} {σ1 : L2.St} {H1 : Hp} {K : VE} {Dn : Ends} {x : Exn} {cls : Value} {dd : Option Addr} {L : List Str} {sub : Str → Str → Bool} (ok : EndOk X.K B W g1 K Dn) (R1 : Rel X.K B g1 s1 σ1 H1) (ex : ExcOk X.K g1 H1 x cls dd) (hL : x.C ∈ L) :
    ∀ {cl : List Cls1}, (∀ q ∈ cl, SubF X.K L sub q.1) → hdX sub cl K x s1 → wT X.K W Dn (clV X.K B cl) cls dd σ1 H1
  | [], _, q => ok.ex g1 s1 σ1 H1 x cls dd (Gx.refl _) R1 ex q
  | (cs, i, ms) :: r, hs, q => by
    have ex' := ex
    obtain ⟨rfl, d, ws, rfl, hd, hf⟩ := ex
    refine ⟨cs.any (sub x.C), exmAny_sub fun c hc => hs (cs, i, ms) (by simp) x.C hL c hc, fun hb => ⟨_, d, rfl, rfl, fun ad na => ?_⟩, fun hb => ?_⟩
    · have q' : ms ⟨s1.e.set i (.dat (.exc x.C x.fs)), s1.n⟩ (sufE i K) := by
        unfold hdX at q
        rw [if_pos hb] at q
        exact q
      have gx : Gx g1 (g1.put ad (exA ad (He.ga X.K x.C) d)) := Gx.put (R1.gn na)
      have R2 := R1.put (o := exA ad (He.ga X.K x.C) d) na
      have R3 := R2.setD (i := i) (d := .exc x.C x.fs) (v := .ref ad) (by
        simp only [DV]
        exact ⟨ad, d, ws, rfl, upd_same, gx.1 _ _ hd, hf.mono gx⟩)
      exact ⟨_, _, _, R3, q', ⟨fun g2 s2 σ2 H2 x2 R2 q => ok.nx g2 _ _ H2 (gx.trans x2) R2.setU q, fun g2 n2 H2 v d' x2 e2 ok2 dv q => ok.rt g2 n2 H2 v d' (gx.trans x2) e2 ok2 dv q, fun g2 s2 σ2 H2 x2 R2 q => ok.bk g2 _ _ H2 (gx.trans x2) R2.setU q,
        fun g2 s2 σ2 H2 x2 R2 q => ok.ct g2 _ _ H2 (gx.trans x2) R2.setU q, fun _ _ _ _ _ _ _ _ _ _ z => z.elim⟩⟩
    · unfold hdX at q
      rw [if_neg (by rw [hb]; decide)] at q
      exact exc_in ok R1 ex' hL (fun q hq => hs q (by simp [hq])) q
inductive HdsM (X : Cx) (B : Bs) : List ExceptHandler → List Cls1 → Prop
  | nil : HdsM X B [] []
  | cons {C n : Str} {i : Nat} {ms : MS} {b₀ : Stmt} {suite : List Stmt} {np pos' : Pos} {hds : List ExceptHandler} {l : List Cls1} (hc : Names X C (.ref (He.ga X.K C))) (hi : X.N[i]? = some n) (hln : X.env.kindOf n = some .local)
      (hsu : ∀ (a : Addr) (pn : List (Addr × Obj)), PMSs (X.suite a pn) B W0 (b₀ :: suite) ms) (r : HdsM X B hds l) :
      HdsM X B (.ExceptHandler (some (.Name C np)) (some n) (b₀ :: suite) pos' :: hds) (([C], i, ms) :: l)
  | cons2 {C1 C2 n : Str} {i : Nat} {ms : MS} {b₀ : Stmt} {suite : List Stmt} {p1 p2 tp pos' : Pos} {kk : Nat} {hds : List ExceptHandler} {l : List Cls1} (h1 : Names X C1 (.ref (He.ga X.K C1))) (h2 : Names X C2 (.ref (He.ga X.K C2))) (hi : X.N[i]? = some n) (hln : X.env.kindOf n = some .local)
      (hsu : ∀ (a : Addr) (pn : List (Addr × Obj)), PMSs (X.suite a pn) B W0 (b₀ :: suite) ms) (r : HdsM X B hds l) :
      HdsM X B (.ExceptHandler (some (.Tuple [.Name C1 p1, .Name C2 p2] kk tp)) (some n) (b₀ :: suite) pos' :: hds) (([C1, C2], i, ms) :: l)
  | cons3 {C1 C2 C3 n : Str} {i : Nat} {ms : MS} {b₀ : Stmt} {suite : List Stmt} {p1 p2 p3 tp pos' : Pos} {kk : Nat} {hds : List ExceptHandler} {l : List Cls1} (h1 : Names X C1 (.ref (He.ga X.K C1))) (h2 : Names X C2 (.ref (He.ga X.K C2))) (h3 : Names X C3 (.ref (He.ga X.K C3))) (hi : X.N[i]? = some n) (hln : X.env.kindOf n = some .local)
      (hsu : ∀ (a : Addr) (pn : List (Addr × Obj)), PMSs (X.suite a pn) B W0 (b₀ :: suite) ms) (r : HdsM X B hds l) :
      HdsM X B (.ExceptHandler (some (.Tuple [.Name C1 p1, .Name C2 p2, .Name C3 p3] kk tp)) (some n) (b₀ :: suite) pos' :: hds) (([C1, C2, C3], i, ms) :: l)
theorem HdsM.t : ∀ {hds : List ExceptHandler} {cl : List Cls1}, HdsM X B hds cl → HdsT X hds (clV X.K B cl) := by
  intro hds cl h
  induction h with
  | nil => exact .nil
  | cons hc hi hln hsu r ih => exact .cons (test_one hc) hi hln hsu ih
  | cons2 h1 h2 hi hln hsu r ih => exact .cons (test_two h1 h2) hi hln hsu ih
  | cons3 h1 h2 h3 hi hln hsu r ih => exact .cons (test_three h1 h2 h3) hi hln hsu ih
theorem pms_tryT {L : List Str} {sub : Str → Str → Bool} {cl : List Cls1} {body : List Stmt} {h₀ : ExceptHandler} {hds : List ExceptHandler} (hN : X.N.Nodup) (tk : Takes X W) (hsub : ∀ q ∈ cl, SubF X.K L sub q.1) (hh : HdsM X B (h₀ :: hds) cl)
    (hb : ∀ (W' : WX) (pn : List (Addr × Obj)) (xe : Value → Shared → Prop), Takes (X.tr pn xe) W' → PassesOwn (model X.prog X.w) X.A X.env xe → PMSs (X.tr pn xe) B W' body m)
    (hex : X.ex = [] := by rfl) (hs : X.stack = X.env :: X.outer := by rfl) (hf : X.env.frame = some X.env.locals := by rfl) : PMS X B W (.Try body (h₀ :: hds) [] [] pos) (mTryT L sub cl m) := by
  refine impS (ps_tryT (tb := fun W' => rdS X.K B W' m) (Wout := W) hs hf hex hN tk hb hh.t) fun Dn σ H ⟨g, s, K, R, hm, ok⟩ => ?_
  exact ⟨g, s, _, R, hm, ⟨ok.nx, ok.rt, ok.bk, ok.ct, fun g1 s1 σ1 H1 x cls dd x1 R1 ex q => exc_in (ok.mono x1) R1 ex q.1 hsub q.2⟩⟩
def excFld (L : List Str) (f : Str) : D → (D → Prop) → Prop
  | .exc C fs, Q => C ∈ L ∧ ∃ d, fs.lookup f = some d ∧ Q d
  | _, _ => False
theorem pm_excFld {L : List Str} {f : Str} (T : ∀ C ∈ L, XfC X.K (He.ga X.K C)) (hno : ∀ C ∈ L, PySem.W.findIn X.K (.ref (He.ga X.K C)) f = some none) (ha : PM X B W a ma) (hb : attributeBase a f X.env (eval a X.env) = eval a X.env := by rfl) :
    PM X B W (.Attribute a f pos) (mUn (excFld L f) ma) := by
  refine ⟨fun pins s σ H Q I h => ?_⟩
  obtain ⟨g, s1, Qd, E, R, hm, hk, hx⟩ := h
  refine attr_of hb (thn (ha.run pins s σ H (fun v H1 => ∃ C ad d ws u, C ∈ L ∧ v = .ref ad ∧ H1 ad = some (exA ad (He.ga X.K C) d) ∧ H1 d = some (.xd ws) ∧ ws.lookup f = some u ∧ Q u H1) I ⟨g, s1, _, E, R, hm, fun g1 s2 H1 x d1 x1 R1 dx q1 => ?_, hx⟩) fun u s2 hh => ?_)
  · cases d1 <;> first | exact (show False from q1).elim | skip
    rename_i C fs
    obtain ⟨hC, e, hl, q⟩ := q1
    simp only [DV] at dx
    obtain ⟨ad, d, ws, rfl, h1, h2, h3⟩ := dx
    obtain ⟨u, hu, du⟩ := h3.get hl
    exact ⟨C, ad, d, ws, u, hC, rfl, R1.gh.sub _ _ h1, R1.gh.sub _ _ h2, hu, hk g1 s2 H1 _ _ x1 R1 du q⟩
  · obtain ⟨x, H1, I1, rx, C, ad, d, ws, v, hC, ex, h1, h2, hu, q⟩ := hh
    subst ex
    obtain rfl : u = Value.ref ad := rx
    obtain ⟨o, vs, ho, hc, hd, hv⟩ := exA_at I1.hok h1
    have hx : ObjOk X.prog X.w H1 s2.heap d (.xd ws) := I1.hok d _ h2
    obtain ⟨mA, hns, hr⟩ := hx
    obtain ⟨od, hod, hlk⟩ := lookIn_ns hns
    obtain ⟨u, eu, ru⟩ := RelO.some_of (v := v) (o := mA f) (by rw [← hu]; exact hr f)
    have J : PySem.W.InstAt s2.heap ad o (He.ga X.K C) (some od) := ⟨ho, hc, by unfold PySem.W.notCls; rw [hv] <;> rfl, by rw [hd]; exact hod⟩
    exact HandSPX.exc_get I1.kIn J (T C hC).ga (T C hC).gg (T C hC).exC (PySem.W.findObj_own (T C hC).hdC (hno C hC) rfl (by rw [hlk, eu])) (handed_of ru) ⟨v, H1, I1.tok _, ru, q⟩
end
end VL
namespace VL
open PySem PySem.Spec PyProof.Rows L2
section
variable {X : Cx} {B : Bs} {W : WX} {a : Expr} {ma : M D} {p pos : Pos} {LE LI : List Str}
/-- a class by its name -/
inductive CN (X : Cx) : Expr → V → Value → Prop
  | own {x : Str} {q : Pos} (C : Str) (hm : X.mg x = some (.ref (He.ga X.K C))) (hg : Gl X x) (hd : (x == ("__debug__" : Str)) = false) : CN X (.Name x q) (.ref (He.ga X.K C)) (.ref (He.ga X.K C))
  | blt {x : Str} {q : Pos} {T : String} (hm : X.mg x = none) (hv : bootBuiltins x = some (.type T)) (hg : Gl X x) (hn : x ≠ "__name__") (hd : (x == ("__debug__" : Str)) = false) : CN X (.Name x q) (.ty T) (.type T)
inductive CNs (X : Cx) : List Expr → List V → List Value → Prop
  | nil : CNs X [] [] []
  | cons {e : Expr} {v : V} {u : Value} {es : List Expr} {vs : List V} {us : List Value} (h : CN X e v u) (r : CNs X es vs us) (hs : starEach (e :: es) X.env = (false, eval e X.env) :: starEach es X.env := by rfl) : CNs X (e :: es) (v :: vs) (u :: us)
theorem CNs.len {es : List Expr} {vs : List V} {us : List Value} (h : CNs X es vs us) : vs.length = es.length := by
  induction h with
  | nil => rfl
  | cons h r hs ih => rw [List.length_cons, List.length_cons, ih]
end
end VL
namespace VL
open PySem L2
end VL
namespace PySem.HandSPX
open PySem Builtin PySem.Calls PySem.W
end PySem.HandSPX
namespace VL
open PySem L2
section
variable {X : Cx} {B : Bs} {W : WX} {a b c : Expr} {ma mb mc : M D} {p pos pos' kp : Pos}
/-- {} -/
theorem pm_dict0 : PM X B W (.Dict [] [] pos) (mC (.dct [])) := by
  refine impE pe_dnewK fun σ H Q h => ?_
  obtain ⟨g, s, Qd, E, R, hm, hk, hx⟩ := h
  intro q hq
  have gx := Gx.put (o := HO.dK []) (R.gn hq)
  refine hk _ s _ _ _ gx (R.put hq) ?_ hm
  simp only [DV, DVk]
  exact ⟨q, [], rfl, upd_same, rfl⟩
end
end VL
namespace VL
open PySem L2
end VL
namespace VL
open PySem PySem.Spec PyProof.Rows L2
inductive CT where
  | own (x : Str) | blt (T : String)
def cvOf (K : PySem.W.Frag) : CT → Value
  | .own x => .ref (He.ga K x)
  | .blt T => .type T
/-- the name of a thing's kind -/
def kd : D → Str
  | .exc C _ => C
  | .ins C _ => C
  | .non => "NoneType"
  | .bl _ => "bool"
  | .int _ => "int"
  | .str _ => "str"
  | .tup _ => "tuple"
  | .lst _ => "list"
  | .dct _ => "dict"
  | _ => ""
def isK (l : List Str) (d : D) : Bool := decide (kd d ∈ l)
def bases : List D := [.non, .bl true, .int 0, .str "", .tup [], .lst [], .dct []]
def kitTab (K : PySem.W.Frag) (LE LI : List Str) (Ts : List CT) (l : List Str) : Bool :=
  (LE.all fun C => decide (PySem.W.kitAny K (.ref (He.ga K C)) (Ts.map (cvOf K)) = some (decide (C ∈ l)))) && ((LI.all fun C => decide (PySem.W.kitAny K (.ref (He.ga K C)) (Ts.map (cvOf K)) = some (decide (C ∈ l)))) &&
  bases.all fun d => decide (PySem.W.kitAny K (.type (tyN d)) (Ts.map (cvOf K)) = some (isK l d)))
def clsB (K : PySem.W.Frag) (D : Addr) : Bool := He.eqO (PySem.W.findIn K (.ref D) "__class__") (some (some (.builtin "object.__class__"))) && (He.eqO (PySem.W.specialIn K (.builtin "object.__class__") "__get__") (some (some (.builtin "getset_descriptor.__get__"))) &&
  (decide (PySem.W.takesIn K (.builtin "object.__class__") = some true) && decide (PySem.W.mroIn K D (.type "object") = some true)))
def subTab (K : PySem.W.Frag) (L cs : List Str) (sub : Str → Str → Bool) : Bool := L.all fun C' => cs.all fun c => decide (PySem.W.exmOne K (.ref (He.ga K C')) (.ref (He.ga K c)) = some (sub C' c))
theorem subF_of {K : PySem.W.Frag} {L cs : List Str} {sub : Str → Str → Bool} (h : subTab K L cs sub = true) {cs' : List Str} (hs : ∀ c ∈ cs', c ∈ cs) : SubF K L sub cs' := fun C' hC c hc =>
  of_decide_eq_true (List.all_eq_true.mp (List.all_eq_true.mp h C' hC) c (hs c hc))
/-- the tables of a law -/
structure Tab where
  LE : List Str
  LI : List Str
  ks : List (List CT × List Str)
  L : List Str
  cs : List Str
  sub : Str → Str → Bool
  noat : List (Str × Str)
def Tab.ok (t : Tab) (K : PySem.W.Frag) : Bool := (t.ks.all fun q => kitTab K t.LE t.LI q.1 q.2) && (((t.LE ++ t.LI).all fun C => clsB K (He.ga K C)) && (subTab K t.L t.cs t.sub && t.noat.all fun q => He.eqO (PySem.W.findIn K (.ref (He.ga K q.1)) q.2) (some none)))
theorem Tab.subs {t : Tab} {K : PySem.W.Frag} (h : t.ok K = true) {cs' : List Str} (hs : ∀ c ∈ cs', c ∈ t.cs) : SubF K t.L t.sub cs' := subF_of (He.ba (He.ba (He.ba h).2).2).1 hs
theorem Tab.no {t : Tab} {K : PySem.W.Frag} (h : t.ok K = true) (C f : Str) (hm : (C, f) ∈ t.noat) : PySem.W.findIn K (.ref (He.ga K C)) f = some none := He.eqO_ok (List.all_eq_true.mp (He.ba (He.ba (He.ba h).2).2).2 (C, f) hm)
end VL
namespace VL
open PySem L2
theorem sizeLine_big : 1000000 ≤ sizeLine := by decide
theorem neP_str {x y : Str} {Q : D → Prop} (h : Q (.bl (!(x == y)))) : neP (.str x) (.str y) Q := h
end VL
namespace VL
open PySem L2
section
variable {X : Cx} {B : Bs} {W : WX} {a b c : Expr} {ma mb mc : M D} {p pos : Pos}
/-- a list or a tuple beside an empty one: nothing within is asked -/
def r0 (K : PySem.W.Frag) (f : Bool → Bool) : R2 := fun x y H Q => ∃ l b xs, x = .ref l ∧ y = .ref b ∧ (SqL K H l xs ∧ SqL K H b [] ∨ SqT K H l xs ∧ SqT K H b []) ∧ Q (.bl (f xs.isEmpty)) H
theorem emp_size {vs : List V} {us : List Value} (r : Vals vs us) : us.isEmpty = vs.isEmpty := by
  cases r <;> rfl
theorem op_eq0 (hu : X.A.units + 64 < cLine) : OpR X (compareOp .Eq) (r0 X.K fun b => b) := by
  intro pins s σ H x y v u Q I rx ry h
  obtain ⟨l, b, xs, rfl, rfl, hs, q⟩ := h
  cases rx
  cases ry
  have hu' : X.A.units < cLine := Nat.lt_of_le_of_lt (Nat.le_add_right _ 64) hu
  rcases hs with ⟨h1, h2⟩ | ⟨h1, h2⟩
  · obtain ⟨its, rv, ⟨o, n, ho, hc, _, hd⟩, _⟩ := I.list h1
    obtain ⟨its2, rv2, ⟨o2, n2, ho2, hc2, _, hd2⟩, _⟩ := I.list h2
    have e2 : its2 = [] := by cases rv2; rfl
    subst e2
    by_cases he : xs = []
    · subst he
      have e1 : its = [] := by cases rv; rfl
      subst e1
      exact SeqAt.eq_listAt (e := fun _ => true) ⟨o, ho, hc, n, hd⟩ ⟨o2, ho2, hc2, n2, hd2⟩ rfl hu' (fun j h1 => absurd h1 (by simp)) ⟨.bl _, H, I, rfl, q⟩
    · have en : xs.isEmpty = false := by cases xs with | nil => exact absurd rfl he | cons _ _ => rfl
      rw [en] at q
      refine SeqAt.eq_list_lengthsAt ⟨o, ho, hc, n, hd⟩ ⟨o2, ho2, hc2, n2, hd2⟩ ?_ hu' ⟨.bl _, H, I, rfl, q⟩
      have en2 := (emp_size rv).trans en
      cases its with
      | nil => cases en2
      | cons _ _ => simp
  · obtain ⟨its, rv, ⟨o, ho, hc, n, hd⟩, _⟩ := I.tuple h1
    obtain ⟨its2, rv2, ⟨o2, ho2, hc2, n2, hd2⟩, _⟩ := I.tuple h2
    have e2 : its2 = [] := by cases rv2; rfl
    subst e2
    refine SeqAt.eq_tupleAt (e := fun _ => true) ⟨o, ho, hc, n, hd⟩ ⟨o2, ho2, hc2, n2, hd2⟩ hu' (fun j _ h1 => absurd h1 (by simp)) ⟨.bl _, H, I, rfl, ?_⟩
    have en := emp_size rv
    cases xs with
    | nil =>
      cases rv
      exact q
    | cons _ _ =>
      cases rv
      exact q
theorem op_ne0 (hu : X.A.units + 64 < cLine) : OpR X (compareOp .NotEq) (r0 X.K fun b => !b) := by
  intro pins s σ H x y v u Q I rx ry h
  obtain ⟨l, b, xs, rfl, rfl, hs, q⟩ := h
  cases rx
  cases ry
  have hu' : X.A.units < cLine := Nat.lt_of_le_of_lt (Nat.le_add_right _ 64) hu
  rcases hs with ⟨h1, h2⟩ | ⟨h1, h2⟩
  · obtain ⟨its, rv, ⟨o, n, ho, hc, _, hd⟩, _⟩ := I.list h1
    obtain ⟨its2, rv2, ⟨o2, n2, ho2, hc2, _, hd2⟩, _⟩ := I.list h2
    have e2 : its2 = [] := by cases rv2; rfl
    subst e2
    by_cases he : xs = []
    · subst he
      have e1 : its = [] := by cases rv; rfl
      subst e1
      exact SeqAt.RcNeAt.lists (e := fun _ => true) ⟨o, ho, hc, n, hd⟩ ⟨o2, ho2, hc2, n2, hd2⟩ rfl hu' (fun j h1 => absurd h1 (by simp)) _ _ _ _ ⟨.bl _, H, I, rfl, q⟩
    · have en : xs.isEmpty = false := by cases xs with | nil => exact absurd rfl he | cons _ _ => rfl
      rw [en] at q
      refine SeqAt.RcNeAt.lists_lengths ⟨o, ho, hc, n, hd⟩ ⟨o2, ho2, hc2, n2, hd2⟩ ?_ hu' _ _ _ _ ⟨.bl _, H, I, rfl, q⟩
      have en2 := (emp_size rv).trans en
      cases its with
      | nil => cases en2
      | cons _ _ => simp
  · obtain ⟨its, rv, ⟨o, ho, hc, n, hd⟩, _⟩ := I.tuple h1
    obtain ⟨its2, rv2, ⟨o2, ho2, hc2, n2, hd2⟩, _⟩ := I.tuple h2
    have e2 : its2 = [] := by cases rv2; rfl
    subst e2
    refine SeqAt.RcNeAt.tuples (e := fun _ => true) ⟨o, ho, hc, n, hd⟩ ⟨o2, ho2, hc2, n2, hd2⟩ hu' (fun j _ h1 => absurd h1 (by simp)) _ _ _ _ ⟨.bl _, H, I, rfl, ?_⟩
    cases xs with
    | nil =>
      cases rv
      exact q
    | cons _ _ =>
      cases rv
      exact q
def d0 (f : Bool → Bool) (d e : D) (Q : D → Prop) : Prop := ∃ ds, (d = .lst ds ∧ e = .lst [] ∨ d = .tup ds ∧ e = .tup []) ∧ Q (.bl (f ds.isEmpty))
theorem opv_0 {K : PySem.W.Frag} {f : Bool → Bool} : OpV K (r0 K f) (d0 f) := by
  intro g H n d1 d2 x y Qd Qv ok h1 h2 hf hk
  obtain ⟨ds, hs, q⟩ := hf
  rcases hs with ⟨rfl, rfl⟩ | ⟨rfl, rfl⟩
  · obtain ⟨p1, v1, rfl, e1, s1⟩ := h1.of_l
    obtain ⟨p2, v2, rfl, e2, s2⟩ := h2.of_l
    have e : v2 = [] := s2.of_nil
    subst e
    refine ⟨p1, p2, v1, rfl, rfl, .inl ⟨SqL.of (ok.sub _ _ e1), SqL.of (ok.sub _ _ e2)⟩, ?_⟩
    rw [empty_V s1]
    exact hk _ _ _ _ (Ext.refl _ _) ok DV.b q
  · obtain ⟨p1, v1, rfl, e1, s1⟩ := h1.of_t
    obtain ⟨p2, v2, rfl, e2, s2⟩ := h2.of_t
    have e : v2 = [] := s2.of_nil
    subst e
    refine ⟨p1, p2, v1, rfl, rfl, .inr ⟨sameT ok.sub e1, sameT ok.sub e2⟩, ?_⟩
    rw [empty_V s1]
    exact hk _ _ _ _ (Ext.refl _ _) ok DV.b q
/-- == beside a literal [] or () -/
def eq0P (d e : D) (Q : D → Prop) : Prop := match d, e with
  | .lst ds, .lst [] => Q (.bl ds.isEmpty)
  | .tup ds, .tup [] => Q (.bl ds.isEmpty)
  | d, e => eqP d e Q
def ne0P (d e : D) (Q : D → Prop) : Prop := match d, e with
  | .lst ds, .lst [] => Q (.bl (!ds.isEmpty))
  | .tup ds, .tup [] => Q (.bl (!ds.isEmpty))
  | d, e => neP d e Q
theorem eq0_or {d e : D} {Q : D → Prop} (h : eq0P d e Q) : d0 (fun b => b) d e Q ∨ eqP d e Q := by
  unfold eq0P at h
  split at h
  · exact .inl ⟨_, .inl ⟨rfl, rfl⟩, h⟩
  · exact .inl ⟨_, .inr ⟨rfl, rfl⟩, h⟩
  · exact .inr h
theorem ne0_or {d e : D} {Q : D → Prop} (h : ne0P d e Q) : d0 (fun b => !b) d e Q ∨ neP d e Q := by
  unfold ne0P at h
  split at h
  · exact .inl ⟨_, .inl ⟨rfl, rfl⟩, h⟩
  · exact .inl ⟨_, .inr ⟨rfl, rfl⟩, h⟩
  · exact .inr h
theorem pm_eq0 (hu : X.A.units + 64 < cLine) (ha : PM X B W a ma) (hb : PM X B W b mb) : PM X B W (.Compare a [.Eq] [b] pos) (mOp eq0P ma mb) :=
  pm_cmp (OpR.or (op_eq0 hu) (OpR.or op_eq (op_eqD hu))) (OpV.or opv_0 (OpV.or opv_eqS opv_eqD fun _ _ _ h => eqD_or h) fun _ _ _ h => eq0_or h) ha hb (nomark _)
theorem pt_eq0 (hu : X.A.units + 64 < cLine) (ha : PM X B W a ma) (hb : PM X B W b mb) : PMT X B W (.Compare a [.Eq] [b] pos) (mTst (mOp eq0P ma mb)) :=
  pt_cmpV (OpR.or (op_eq0 hu) (OpR.or op_eq (op_eqD hu))) (OpV.or opv_0 (OpV.or opv_eqS opv_eqD fun _ _ _ h => eqD_or h) fun _ _ _ h => eq0_or h) ha hb (nomark _)
theorem pt_ne0 (hu : X.A.units + 64 < cLine) (ha : PM X B W a ma) (hb : PM X B W b mb) : PMT X B W (.Compare a [.NotEq] [b] pos) (mTst (mOp ne0P ma mb)) :=
  pt_cmpV (OpR.or (op_ne0 hu) (OpR.or op_ne (op_neD hu))) (OpV.or opv_0 (OpV.or opv_neS opv_neD fun _ _ _ h => eqD_or h) fun _ _ _ h => ne0_or h) ha hb (nomark _)
end
end VL
namespace VL
open PySem PySem.Spec PyProof.Rows L2
end VL
namespace VL
open PySem PySem.Spec PyProof.Rows L2
def keyS (e : Int × Value) : Str := match e.2 with
  | .str x _ => x
  | _ => ""
def GoodS (w : World) (e : Int × Value) : Prop := ∃ x tk, e.2 = Value.str x tk ∧ e.1 = hashStr w x
/-- at a: a set of the texts for which S holds, n of them -/
def SetS (w : World) (h : Heap) (a : Addr) (S : Str → Bool) (n : Nat) : Prop :=
  ∃ o es ep t, h.get? a = some o ∧ o.ExactSet ∧ o.data = .set es ep t ∧ (∀ e ∈ es.toList, GoodS w e) ∧ (es.toList.map keyS).Nodup ∧ (∀ k, S k = true ↔ k ∈ es.toList.map keyS) ∧
    es.size < scanBound ∧ t.fits es.size = true ∧ es.size = n ∧ Ris t.place.toList ∧ (w.params.followText "set-order" = true ∨ t.led = true)
section
variable {P : Program} {w : World} {A : Around} {E : Value → Shared → Prop} {s : Shared} {a : Addr} {S : Str → Bool} {n : Nat} {h h' : Heap}
theorem SetS.keep (R : SetS w h a S n) (k : ∀ o, h.get? a = some o → h'.get? a = some o) : SetS w h' a S n := by
  obtain ⟨o, es, ep, t, ho, r⟩ := R
  exact ⟨o, es, ep, t, k _ ho, r⟩
theorem SetS.same {S' : Str → Bool} (R : SetS w h a S n) (e : ∀ k, S' k = S k) : SetS w h a S' n := by
  rw [funext e]
  exact R
end
end VL
namespace VL
open PySem PySem.Spec PyProof.Rows L2
/-- a new set -/
abbrev set0 (w : World) : Obj := { cls := .type "set", dict := none, data := .set #[] 0 (.fresh 0 0 (!w.params.followText "set-order")) }
end VL
namespace VL
open PySem PySem.Spec PyProof.Rows L2
section
variable {P : Program} {w : World} {A : Around} {E : Value → Shared → Prop} {s : Shared} {a : Addr} {S : Str → Bool} {n : Nat}
theorem strs_of : ∀ (l : List Value), (∀ v ∈ l, ∃ x tk, v = Value.str x tk) → StrsAre l (l.map fun v => keyS (0, v))
  | [], _ => .nil
  | v :: l, h => by
    obtain ⟨x, tk, rfl⟩ := h v List.mem_cons_self
    exact .cons x tk (strs_of l fun u hu => h u (List.mem_cons_of_mem _ hu))
end
end VL
namespace VL
open PySem L2
mutual
/-- plain data whose integers are b at most -/
def clB (b : Nat) : D → Bool
  | .non => true
  | .bl _ => true
  | .int i => decide (i.natAbs ≤ b)
  | .str x => PyData.strOk x
  | .tup ds => clBs b ds
  | .lst ds => clBs b ds
  | .dct kvs => kvs.isEmpty
  | _ => false
def clBs (b : Nat) : List D → Bool
  | [] => true
  | d :: ds => clB b d && clBs b ds
end
abbrev cl (d : D) : Bool := clB (10 ^ 59) d
abbrev cls (ds : List D) : Bool := clBs (10 ^ 59) ds
mutual
theorem clB_mono {a b : Nat} (h : a ≤ b) : ∀ d : D, clB a d = true → clB b d = true
  | .non, _ => by simp [clB]
  | .bl _, _ => by simp [clB]
  | .int i, k => by
    simp only [clB, decide_eq_true_eq] at k ⊢
    omega
  | .str _, k => by simpa [clB] using k
  | .tup ds, k => by simpa [clB] using clBs_mono h ds (by simpa [clB] using k)
  | .lst ds, k => by simpa [clB] using clBs_mono h ds (by simpa [clB] using k)
  | .dct _, k => by simpa [clB] using k
  | .ins _ _, k => by simp [clB] at k
  | .fdc _, k => by simp [clB] at k
  | .drw, k => by simp [clB] at k
  | .scr _, k => by simp [clB] at k
  | .adr _, k => by simp [clB] at k
  | .exc _ _, k => by simp [clB] at k
theorem clBs_mono {a b : Nat} (h : a ≤ b) : ∀ ds : List D, clBs a ds = true → clBs b ds = true
  | [], _ => by simp [clBs]
  | d :: ds, k => by
    simp only [clBs, Bool.and_eq_true] at k ⊢
    exact ⟨clB_mono h d k.1, clBs_mono h ds k.2⟩
end
mutual
def wt : D → Nat
  | .int _ => 70
  | .str x => 1 + x.length
  | .tup ds => 1 + wts ds
  | .lst ds => 1 + wts ds
  | _ => 1
def wts : List D → Nat
  | [] => 0
  | d :: ds => wt d + wts ds
end
abbrev dp (d : D) : Nat := (pyR d).depth
theorem cls_iff {b : Nat} : ∀ {ds : List D}, clBs b ds = true ↔ ∀ d ∈ ds, clB b d = true
  | [] => by simp [clBs]
  | d :: ds => by
    simp only [clBs, Bool.and_eq_true, cls_iff (ds := ds), List.mem_cons, forall_eq_or_imp]
theorem wts_app : ∀ (xs ys : List D), wts (xs ++ ys) = wts xs + wts ys
  | [], ys => by simp [wts]
  | x :: xs, ys => by
    simp only [List.cons_append, wts, wts_app xs ys]
    omega
theorem wt_pos (d : D) : 1 ≤ wt d := by
  cases d <;> simp only [wt] <;> omega
theorem len_wts : ∀ ds : List D, ds.length ≤ wts ds
  | [] => by simp [wts]
  | d :: ds => by
    have := wt_pos d
    have := len_wts ds
    simp only [List.length_cons, wts]
    omega
theorem wt_mem {d : D} : ∀ {ds : List D}, d ∈ ds → wt d ≤ wts ds
  | [], h => by simp at h
  | x :: ds, h => by
    simp only [wts]
    rcases List.mem_cons.mp h with rfl | h
    · omega
    · have := wt_mem h
      omega
theorem wts_take (n : Nat) (ds : List D) : wts (ds.take n) ≤ wts ds := by
  have h := wts_app (ds.take n) (ds.drop n)
  rw [List.take_append_drop] at h
  omega
theorem wts_drop (n : Nat) (ds : List D) : wts (ds.drop n) ≤ wts ds := by
  have h := wts_app (ds.take n) (ds.drop n)
  rw [List.take_append_drop] at h
  omega
theorem dps_le {k : Nat} : ∀ {ds : List D}, PyData.depthAll (pyRs ds) ≤ k ↔ ∀ d ∈ ds, dp d ≤ k
  | [] => by simp [pyRs, PyData.depthAll]
  | d :: ds => by
    simp only [pyRs, PyData.depthAll, List.mem_cons, forall_eq_or_imp, ← dps_le (ds := ds), dp]
    omega
theorem dp_tup {ds : List D} {k : Nat} (h : ∀ d ∈ ds, dp d ≤ k) : dp (.tup ds) ≤ k + 1 := by
  have := dps_le.mpr h
  simp only [dp, pyR, PyData.depth]
  omega
theorem dp_lst {ds : List D} {k : Nat} (h : ∀ d ∈ ds, dp d ≤ k) : dp (.lst ds) ≤ k + 1 := by
  have := dps_le.mpr h
  simp only [dp, pyR, PyData.depth]
  omega
theorem dp_mem {ds : List D} {d : D} (h : d ∈ ds) : dp d + 1 ≤ dp (.tup ds) := by
  have := (dps_le (ds := ds) (k := PyData.depthAll (pyRs ds))).mp (Nat.le_refl _) d h
  simp only [dp, pyR, PyData.depth] at this ⊢
  omega
theorem cl_ty {b : Nat} {d : D} (h : clB b d = true) : tyOk d = true := by
  cases d <;> first | rfl | (simp [clB] at h; done)
mutual
theorem cl_okR : ∀ d : D, cl d = true → okR d = true
  | .non, _ => rfl
  | .bl _, _ => rfl
  | .int i, h => by
    simp only [clB, decide_eq_true_eq] at h
    simp only [okR, decide_eq_true_eq]
    by_cases z : i.natAbs = 0
    · rw [z]; decide
    · exact (Nat.log2_lt z).mpr (Nat.lt_of_le_of_lt h (by decide +kernel))
  | .str _, _ => rfl
  | .tup ds, h => by simpa [okR] using cls_okR ds (by simpa [clB] using h)
  | .lst ds, h => by simpa [okR] using cls_okR ds (by simpa [clB] using h)
  | .dct _, h => by simpa [okR, clB] using h
  | .ins _ _, h => by simp [clB] at h
  | .fdc _, h => by simp [clB] at h
  | .drw, h => by simp [clB] at h
  | .scr _, h => by simp [clB] at h
  | .adr _, h => by simp [clB] at h
  | .exc _ _, h => by simp [clB] at h
theorem cls_okR : ∀ ds : List D, cls ds = true → okRs ds = true
  | [], _ => rfl
  | d :: ds, h => by
    simp only [clBs, Bool.and_eq_true] at h
    simp only [okRs, Bool.and_eq_true]
    exact ⟨cl_okR d h.1, cls_okR ds h.2⟩
end
end VL
namespace VL
open PySem L2
theorem ok_append {x y : Str} (h : PyData.strOk x = true) (k : PyData.strOk y = true) : PyData.strOk (x ++ y) = true := by
  unfold PyData.strOk at *
  show (x.cps ++ y.cps).all _ = true
  rw [Array.all_append, h, k]
  rfl
theorem ok_ofString (s : String) : PyData.strOk (Str.ofString s) = true := by
  rw [Str.ofString_eq_toList]
  unfold PyData.strOk
  rw [List.all_toArray, List.all_eq_true]
  intro c hc
  obtain ⟨ch, _, rfl⟩ := List.mem_map.mp hc
  have := ch.valid
  simp only [decide_eq_true_eq]
  rcases this with h | h
  · exact Nat.lt_trans h (by decide)
  · exact h.2
theorem ok_iff {x : Str} : PyData.strOk x = true ↔ ∀ c ∈ x.cps.toList, c < 0x110000 := by
  unfold PyData.strOk
  rw [← Array.all_toList, List.all_eq_true]
  simp
theorem ok_reprChar {q c : Nat} (hc : c < 0x110000) : ∀ y ∈ Builtin.Str.reprChar q c, y < 0x110000 := by
  intro y hy
  have hex : ∀ (k : Nat), y ∈ List.replicate k 48 ++ (Nat.toDigits 16 c).map Char.toNat → y < 0x110000 := fun k h => by
    rcases List.mem_append.mp h with h | h
    · rw [List.eq_of_mem_replicate h]; decide
    · obtain ⟨ch, _, rfl⟩ := List.mem_map.mp h
      rcases ch.valid with z | z
      · exact Nat.lt_trans z (by decide)
      · exact z.2
  unfold Builtin.Str.reprChar at hy
  simp only at hy
  repeat' split at hy
  all_goals first
    | (simp only [List.mem_cons, List.not_mem_nil, or_false] at hy; rcases hy with rfl | rfl <;> first | decide | exact hc)
    | (simp only [List.mem_cons, List.not_mem_nil, or_false] at hy; rw [hy]; exact hc)
    | (rw [List.mem_append] at hy; rcases hy with hy | hy; (simp only [List.mem_cons, List.not_mem_nil, or_false] at hy; rcases hy with rfl | rfl <;> decide); exact hex _ hy)
theorem ok_foldl (q : Nat) : ∀ (l : List Nat) (acc : Array Nat), (∀ c ∈ acc.toList, c < 0x110000) → (∀ c ∈ l, c < 0x110000) → ∀ y ∈ (l.foldl (fun out c => out ++ (Builtin.Str.reprChar q c).toArray) acc).toList, y < 0x110000
  | [], acc, h, _ => h
  | c :: r, acc, h, k => by
    rw [List.foldl_cons]
    refine ok_foldl q r _ (fun y hy => ?_) fun y hy => k y (by simp [hy])
    rw [Array.toList_append, List.mem_append] at hy
    rcases hy with hy | hy
    · exact h y hy
    · exact ok_reprChar (k c (by simp)) y (by simpa using hy)
theorem ok_reprText {x : Str} (h : PyData.strOk x = true) : PyData.strOk (reprText x) = true := by
  have hq : reprQuote x < 0x110000 := by unfold reprQuote; split <;> decide
  rw [ok_iff]
  unfold reprText
  intro y hy
  simp only [Array.toList_push, List.mem_append, List.mem_singleton] at hy
  rcases hy with hy | hy
  · rw [← Array.foldl_toList] at hy
    exact ok_foldl _ x.cps.toList #[reprQuote x] (fun c hc => by simp at hc; rw [hc]; exact hq) (ok_iff.mp h) y hy
  · rw [hy]; exact hq
theorem int_len {i : Int} (h : i.natAbs ≤ 10 ^ 59) : (Str.ofString (toString i)).length ≤ 61 := by
  rw [ofString_length]
  cases i with
  | ofNat m =>
    show (Nat.repr m).length ≤ 61
    unfold Nat.repr
    simp only [String.length_ofList]
    exact Nat.le_trans (PyProof.Rows.digits10_le (k := 60) (by decide) (Nat.lt_of_le_of_lt h (by decide +kernel))) (by decide)
  | negSucc m =>
    show ("-" ++ Nat.repr (m + 1)).length ≤ 61
    rw [String.length_append]
    unfold Nat.repr
    simp only [String.length_ofList]
    have := PyProof.Rows.digits10_le (k := 60) (n := m + 1) (by decide) (Nat.lt_of_le_of_lt h (by decide +kernel))
    have e : ("-" : String).length = 1 := by decide
    omega
theorem ok_join : ∀ ts : List Str, (∀ t ∈ ts, PyData.strOk t = true) → PyData.strOk (Str.join ", " ts) = true
  | [], _ => by decide +kernel
  | [x], h => h x (by simp)
  | x :: y :: r, h => by
    show PyData.strOk (x ++ (", " : Str) ++ Str.join ", " (y :: r)) = true
    exact ok_append (ok_append (h x (by simp)) (ok_ofString _)) (ok_join (y :: r) fun t ht => h t (by simp [ht]))
mutual
theorem repr_ok : ∀ d : D, cl d = true → PyData.strOk (reprD d) = true ∧ (reprD d).length + 2 ≤ 12 * wt d
  | .non, _ => ⟨by decide +kernel, by decide +kernel⟩
  | .bl true, _ => ⟨by decide +kernel, by decide +kernel⟩
  | .bl false, _ => ⟨by decide +kernel, by decide +kernel⟩
  | .int i, h => by
    simp only [clB, decide_eq_true_eq] at h
    have e : reprD (.int i) = Str.ofString (toString i) := by simp only [reprD, pyR, PyData.shown]
    rw [e]
    have := int_len h
    refine ⟨ok_ofString _, ?_⟩
    simp only [wt]
    omega
  | .str x, h => by
    simp only [clB] at h
    have e : reprD (.str x) = reprText x := by simp only [reprD, pyR, PyData.shown]
    rw [e]
    refine ⟨ok_reprText h, ?_⟩
    have := StrLaws.reprText_len x fun c hc => Nat.lt_trans (ok_iff.mp h c hc) (by decide)
    simp only [wt]
    omega
  | .tup ds, h => by
    have hs := reprs_ok ds (by simpa [clB] using h)
    have e : reprD (.tup ds) = tupleText (PyData.shownAll (pyRs ds)) := by simp only [reprD, pyR, PyData.shown]
    rw [e]
    refine ⟨?_, ?_⟩
    · unfold tupleText
      refine ok_append (ok_append (ok_ofString _) (ok_join _ hs.1)) ?_
      split <;> exact ok_ofString _
    · have h1 := tupleText_len_le (PyData.shownAll (pyRs ds))
      have h2 := hs.2.1
      have h3 := hs.2.2
      simp only [wt]
      omega
  | .lst ds, h => by
    have hs := reprs_ok ds (by simpa [clB] using h)
    have e : reprD (.lst ds) = listText (PyData.shownAll (pyRs ds)) := by simp only [reprD, pyR, PyData.shown]
    rw [e]
    refine ⟨?_, ?_⟩
    · rw [listText_eq_join]
      exact ok_append (ok_append (ok_ofString _) (ok_join _ hs.1)) (ok_ofString _)
    · have h1 := listText_len_le (PyData.shownAll (pyRs ds))
      have h2 := hs.2.1
      have h3 := hs.2.2
      simp only [wt]
      omega
  | .dct kvs, _ => by
    have e : reprD (.dct kvs) = dictText [] := by simp only [reprD, pyR, PyData.shown, PyData.shownKv]
    rw [e]
    refine ⟨by decide +kernel, ?_⟩
    have : (dictText []).length = 2 := by decide +kernel
    simp only [wt]
    omega
  | .ins _ _, h => by simp [clB] at h
  | .fdc _, h => by simp [clB] at h
  | .drw, h => by simp [clB] at h
  | .scr _, h => by simp [clB] at h
  | .adr _, h => by simp [clB] at h
  | .exc _ _, h => by simp [clB] at h
theorem reprs_ok : ∀ ds : List D, cls ds = true → (∀ t ∈ PyData.shownAll (pyRs ds), PyData.strOk t = true) ∧ ((PyData.shownAll (pyRs ds)).map (·.length)).sum + 2 * ds.length ≤ 12 * wts ds ∧ (PyData.shownAll (pyRs ds)).length = ds.length
  | [], _ => ⟨by simp [pyRs, PyData.shownAll], by simp [pyRs, PyData.shownAll], by simp [pyRs, PyData.shownAll]⟩
  | d :: ds, h => by
    simp only [clBs, Bool.and_eq_true] at h
    obtain ⟨a1, a2⟩ := repr_ok d h.1
    obtain ⟨b1, b2, b3⟩ := reprs_ok ds h.2
    refine ⟨fun t ht => ?_, ?_, ?_⟩
    · simp only [pyRs, PyData.shownAll, List.mem_cons] at ht
      rcases ht with rfl | ht
      · exact a1
      · exact b1 t ht
    · simp only [pyRs, PyData.shownAll, List.map_cons, List.sum_cons, wts]
      have : (PyData.shown (pyR d)).length + 2 ≤ 12 * wt d := a2
      simp only [List.length_cons]
      omega
    · simp only [pyRs, PyData.shownAll, List.length_cons, b3]
end
end VL
namespace VL
open PySem PySem.Spec PyProof.Rows L2
open LamX (CodeO TabS Tabs ExtN TabB)
abbrev lamFd (q : Str) (params : Arguments) (body : Expr) (scope : Scope) (cl : List (Str × Addr)) (dv pm cdv ct : Value) : FuncData :=
  { name := "<lambda>", qualname := q, params, body := .expr body, scope, globals := mainGlobals, closure := cl, defaults := dv, kwdefaults := .none, doc := .none, pyModule := pm, annotations := none, code := cdv, closureTuple := ct, builtins := builtinsNs }
abbrev lamOb (q : Str) (params : Arguments) (body : Expr) (scope : Scope) (cl : List (Str × Addr)) (dv pm : Value) (c' : Addr) (ct : Value) : Obj := { cls := .type "function", data := .func (lamFd q params body scope cl dv pm (.ref c') ct) }
section
variable {M : Model} {A : Around} {E : Value → Shared → Prop} {s : Shared} {q : Str} {params : Arguments} {body : Expr} {scope : Scope} {env : Env} {c P : Addr} {ps : Array Value} {pos : Pos} {fl : Nat} {mg : Str → Option Value} {clos : List (Str × Addr)} {Q : Value → Shared → Prop} {dv : Value}
theorem lam_tail (hcl : closureFor scope env = pure clos) (hge0 : env.globals = mainGlobals) (hg : s.heap.Ns mainGlobals mg) (hcode : env.code = .ref c) (C : PySem.W.CodeHd s.heap c P) (hP : s.heap.get? P = some (PySem.W.tabObj ps)) (ht : TriplesOk ps.toList) (hgP : mainGlobals ≠ P) (hb : s.heap.BuiltinsAt mg P)
    (hnew : codeAmong pos ps.toList = none → ∀ c' ctv h' tk, Heap.ExtBut P s.heap h' → s.heap.objs.size ≤ c' → c' < h'.objs.size → h'.CodeRec (.ref c') q → h'.get? P = some (PySem.W.tabObj (ps ++ #[rawInt pos.line, rawInt pos.col, .ref c'])) →
      Q (.ref h'.objs.size) { s with heap := h'.push (lamOb q params body scope clos dv ((mg "__name__").getD .none) c' ctv), toks := tk })
    (hhit : ∀ cv, codeAmong pos ps.toList = some cv → ∀ (ctv : Value) (h' : Heap) (tk : Tok), (∀ b o, s.heap.get? b = some o → h'.get? b = some o) → s.heap.objs.size ≤ h'.objs.size →
      Q (.ref h'.objs.size) { s with heap := h'.push { cls := .type "function", data := .func (lamFd q params body scope clos dv ((mg "__name__").getD .none) cv ctv) }, toks := tk }) :
    wpAny M A (makeTail "<lambda>" q params (.expr body) scope env dv .none none pos fl) Q E s := by
  obtain ⟨bm, ob, hbm, hne0, _, hneP, hbo, hcls, hdict, hdata⟩ := hb
  unfold makeTail
  rw [hcl, hge0]
  refine wpAny_bind (wpAny_pure ?_)
  have up : ∀ (oT : Obj) (b : Addr) (o : Obj), s.heap.get? b = some o → (s.heap.push oT).get? b = some o := fun oT b o e => Heap.get?_push_of_some _ e
  cases hc : codeAmong pos ps.toList with
  | none =>
    cases clos with
    | nil =>
      simp only [List.isEmpty_nil, if_true]
      refine wpAny_bind (wpAny_pure (wpAny_bind (wpAny_functionCodeX hcode (C.code hP ht) (C.tab hP) hc fun c' h' tk hx hge hlt _ hrec htb _ => ?_)))
      have hg' := hg.extBut hx hgP
      refine wpAny_bind (wpAny_builtinsFor hg' hbm hne0 (hx _ _ hneP hbo) hcls hdict hdata (wpAny_bind (wpAny_nsGet hg' ?_)))
      exact wpAny_bind (wpAny_pure (wpAny_newObj_type (hnew hc c' .none h' tk hx hge hlt hrec htb.2) (by size_fits)))
    | cons y r =>
      simp only [List.isEmpty_cons, Bool.false_eq_true, if_false]
      refine wpAny_bind (wpAny_newTextTuple (wpAny_bind (wpAny_functionCodeX hcode ((C.keeps (up _)).code (up _ _ _ hP) ht) ((C.keeps (up _)).tab (up _ _ _ hP)) hc fun c' h' tk hx hge hlt _ hrec htb _ => ?_)))
      have hg' := (hg.push _).extBut hx hgP
      have hx' : Heap.ExtBut P s.heap h' := fun b o hb' e => hx b o hb' (up _ _ _ e)
      have hge' : s.heap.objs.size ≤ c' := Nat.le_trans (by rw [Heap.size_push]; omega) hge
      refine wpAny_bind (wpAny_builtinsFor hg' hbm hne0 (hx' _ _ hneP hbo) hcls hdict hdata (wpAny_bind (wpAny_nsGet hg' ?_)))
      exact wpAny_bind (wpAny_pure (wpAny_newObj_type (hnew hc c' _ h' tk hx' hge' hlt hrec htb.2) (by size_fits)))
  | some cv =>
    cases clos with
    | nil =>
      simp only [List.isEmpty_nil, if_true]
      refine wpAny_bind (wpAny_pure (wpAny_bind (wpAny_functionCode_hit hcode (C.code hP ht) hc ?_)))
      refine wpAny_bind (wpAny_builtinsFor hg hbm hne0 hbo hcls hdict hdata (wpAny_bind (wpAny_nsGet hg ?_)))
      exact wpAny_bind (wpAny_pure (wpAny_newObj_type (hhit cv hc .none s.heap s.toks (fun _ _ e => e) (Nat.le_refl _)) (by size_fits)))
    | cons y r =>
      simp only [List.isEmpty_cons, Bool.false_eq_true, if_false]
      refine wpAny_bind (wpAny_newTextTuple (wpAny_bind (wpAny_functionCode_hit hcode ((C.keeps (up _)).code (up _ _ _ hP) ht) hc ?_)))
      refine wpAny_bind (wpAny_builtinsFor (hg.push _) hbm hne0 (up _ _ _ hbo) hcls hdict hdata (wpAny_bind (wpAny_nsGet (hg.push _) ?_)))
      exact wpAny_bind (wpAny_pure (wpAny_newObj_type (hhit cv hc _ _ s.toks (up _) (by rw [Heap.size_push]; omega)) (by size_fits)))
end
section
variable {X : Cx} {pins : List (Addr × Obj)} {σ : L2.St} {H : Hp} {s : Shared}
theorem lam_nofr (I : Inv X pins σ H s) {f : Addr} (hf : s.heap.objs.size ≤ f) : f ∉ frs X.stack := fun z => by
  rcases List.mem_cons.mp (I.stkSub _ z) with e | e
  · have h1 := I.lt
    rw [← e] at h1
    exact Nat.lt_irrefl _ (Nat.lt_of_lt_of_le h1 hf)
  · exact I.nofs hf e
/-- made: its code object is new, or found in the table -/
theorem lam_made {T : List (Addr × Str)} {c P : Addr} {params : Arguments} {body : Expr} {scope : Scope} {pos : Pos} {fl : Nat} {dv : Value} {E Q : Value → Shared → Prop} (I : Inv X pins σ H s) (TB : TabB X.base X.mg c P) (hcode : X.env.code = .ref c)
    (hm : (P, X.env.qual ++ "<lambda>") ∈ T) (hu : ∀ p ∈ T, p.1 = P → p.2 = X.env.qual ++ "<lambda>") (hT : Tabs T H) (hfree : ∀ y ∈ scope.names, y.2 = .free → ∃ c, X.env.cells.lookup y.1 = some c)
    (h : ∀ (f c' : Addr) (pm ctv : Value) (H1 : Hp) (s' : Shared), Inv X pins σ H1 s' → ExtN H H1 → (∀ b, H b = none → b < s.heap.objs.size → H1 b = none) → (∀ b o, s.heap.get? b = some o → H b = none → s'.heap.get? b = some o) → (∀ a o, H a = some o → ∃ o', H1 a = some o') → (∀ T', (∀ p ∈ T', p.1 = P → p.2 = X.env.qual ++ "<lambda>") → Tabs T' H → Tabs T' H1) →
      s'.heap.get? f = some (lamOb (X.env.qual ++ "<lambda>") params body scope (cloFrom X.env.cells scope.names []) dv pm c' ctv) → H1 f = none → f ∉ frs X.stack → H1 c' = some (CodeO c' (X.env.qual ++ "<lambda>")) → Q (.ref f) s') :
    wpAny (model X.prog X.w) X.A (makeTail "<lambda>" (X.env.qual ++ "<lambda>") params (.expr body) scope X.env dv .none none pos fl) Q E s := by
  obtain ⟨ps, hP, ht, ha⟩ := hT _ hm
  have bP : s.heap.BuiltinsAt X.mg P := TB.bm.keeps I.bk
  have hP' : s.heap.get? P = some { cls := .none, data := .fields ps } := I.hok P _ hP
  refine lam_tail (mg := X.mg) (c := c) (P := P) (ps := ps) (closure_ok hfree) I.ok.glob (I.mod.glob.keeps I.bk) hcode (TB.code.keeps I.bk) hP' ht TB.gP bP (fun hc c' ctv h' tk hx hge hlt hrec htb => ?_) fun cv hc ctv h' tk hx hsz => ?_
  · obtain ⟨c2, oc, vs, t, e2, hoc, hd, hv⟩ := hrec
    cases e2
    have hsz : s.heap.objs.size ≤ h'.objs.size := Nat.le_trans hge (Nat.le_of_lt hlt)
    have nC : H c' = none := I.hok.fresh hge
    have I1 := LamX.inv_table (t' := tk) (more := #[rawInt pos.line, rawInt pos.col, .ref c']) (h' := h'.push (lamOb (X.env.qual ++ "<lambda>") params body scope (cloFrom X.env.cells scope.names []) dv ((X.mg "__name__").getD .none) c' ctv)) I hP
      (fun b o hb e => Heap.get?_push_of_some _ (hx b o hb e)) (Heap.get?_push_of_some _ htb) hge ⟨oc, vs, t, Heap.get?_push_of_some _ hoc, hd, hv⟩
    have hE : ExtN H (upd (upd H P (.tbl (ps ++ #[rawInt pos.line, rawInt pos.col, .ref c']))) c' (CodeO c' (X.env.qual ++ "<lambda>"))) := fun b o e n => by
      rw [upd_ne (ne_of_none e nC), upd_ne (fun z => n ps (Option.some.inj (e.symm.trans (by rw [z]; exact hP))))]
      exact e
    have eL : (ps ++ #[rawInt pos.line, rawInt pos.col, .ref c']).toList = ps.toList ++ [rawInt pos.line, rawInt pos.col, .ref c'] := by simp
    have nP : ∀ b, H b = none → b ≠ P := fun b e z => by rw [z, hP] at e; cases e
    have hT1 : ∀ T', (∀ p ∈ T', p.1 = P → p.2 = X.env.qual ++ "<lambda>") → Tabs T' H → Tabs T' (upd (upd H P (.tbl (ps ++ #[rawInt pos.line, rawInt pos.col, .ref c']))) c' (CodeO c' (X.env.qual ++ "<lambda>"))) := fun T' hu' hT' p hp => by
      by_cases hb : p.1 = P
      · rw [hu' p hp hb, hb]
        refine ⟨_, by rw [upd_ne (ne_of_none hP nC), upd_same], by rw [eL]; exact PySem.TriplesOk_snoc _ _ _ _ ht, fun p' cv hcv => ?_⟩
        rw [eL] at hcv
        rcases LamX.among_app _ ht hcv with z | z
        · obtain ⟨c0, e1, e2⟩ := ha p' cv z
          exact ⟨c0, e1, hE _ _ e2 LamX.codeO_ne⟩
        · exact ⟨c', z, upd_same⟩
      · obtain ⟨ps', a1, a2, a3⟩ := hT' p hp
        refine ⟨ps', by rw [upd_ne (ne_of_none a1 nC), upd_ne hb]; exact a1, a2, fun p' cv hcv => ?_⟩
        obtain ⟨c0, e1, e2⟩ := a3 p' cv hcv
        exact ⟨c0, e1, hE _ _ e2 LamX.codeO_ne⟩
    refine h h'.objs.size c' ((X.mg "__name__").getD .none) ctv _ _ I1 hE (fun b hb hlt' => ?_) (fun b o e n => Heap.get?_push_of_some _ (hx b o (nP b n) e)) (fun a o e => ?_) hT1 (Heap.get?_push_size _ rfl) ?_ (lam_nofr I hsz) upd_same
    · have nb : b ≠ c' := fun z => by rw [z] at hlt'; exact Nat.lt_irrefl _ (Nat.lt_of_lt_of_le hlt' hge)
      rw [upd_ne nb, upd_ne (nP b hb)]
      exact hb
    · by_cases e1 : a = c'
      · rw [e1, upd_same]; exact ⟨_, rfl⟩
      · rw [upd_ne e1]
        by_cases e2 : a = P
        · rw [e2, upd_same]; exact ⟨_, rfl⟩
        · rw [upd_ne e2]; exact ⟨_, e⟩
    · have n1 : h'.objs.size ≠ c' := Nat.ne_of_gt hlt
      have n2 : h'.objs.size ≠ P := Nat.ne_of_gt (Nat.lt_of_lt_of_le (Heap.lt_size hP') hsz)
      rw [upd_ne n1, upd_ne n2]
      exact I.hok.fresh hsz
  · obtain ⟨c', e, hco⟩ := ha pos cv hc
    subst e
    have I1 : Inv X pins σ H { s with heap := h'.push (lamOb (X.env.qual ++ "<lambda>") params body scope (cloFrom X.env.cells scope.names []) dv ((X.mg "__name__").getD .none) c' ctv), toks := tk } := I.kept fun b o e => Heap.get?_push_of_some _ (hx b o e)
    exact h h'.objs.size c' ((X.mg "__name__").getD .none) ctv H _ I1 (ExtN.refl H) (fun b e _ => e) (fun b o e _ => Heap.get?_push_of_some _ (hx b o e)) (fun a o e => ⟨o, e⟩) (fun _ _ t => t) (Heap.get?_push_size _ rfl) (I.hok.fresh hsz) (lam_nofr I hsz) hco
end
end VL
namespace VL
open PySem PySem.Spec PyProof.Rows L2
open LamX (CodeO TabS Tabs ExtN TabB lamEnv lamCx)
/-- captured names, globals, parameters that the maker does not have -/
structure LamS (N : List Str) (sc scope : Scope) : Prop where
  kind : scope.kind = .function
  co : scope.isCoroutine = false
  gen : scope.isGenerator = false
  own : ∀ y ∈ scope.names, y.2 ≠ .cell ∧ (y.2 = .local → y.1 ∉ N)
  free : ∀ y ∈ scope.names, y.2 = .free → sc.names.lookup y.1 = some .cell ∨ sc.names.lookup y.1 = some .free
def lamSB (N : List Str) (sc scope : Scope) : Bool :=
  decide (scope.kind = .function) && !scope.isCoroutine && !scope.isGenerator && scope.names.all fun y => !decide (y.2 = .cell) && (!decide (y.2 = .local) || !N.contains y.1) && (!decide (y.2 = .free) || decide (sc.names.lookup y.1 = some .cell) || decide (sc.names.lookup y.1 = some .free))
theorem lamS_by {N : List Str} {sc scope : Scope} (h : lamSB N sc scope = true) : LamS N sc scope := by
  unfold lamSB at h
  simp only [Bool.and_eq_true, Bool.or_eq_true, Bool.not_eq_true', decide_eq_true_eq, decide_eq_false_iff_not, List.all_eq_true] at h
  obtain ⟨⟨⟨h1, h2⟩, h3⟩, h4⟩ := h
  refine ⟨h1, h2, h3, fun y hy => ⟨(h4 y hy).1.1, fun e z => ?_⟩, fun y hy e => ?_⟩
  · rcases (h4 y hy).1.2 with q | q
    · exact q e
    · rw [List.contains_eq_mem, decide_eq_false_iff_not] at q
      exact q z
  · rcases (h4 y hy).2 with (z | z) | z
    · exact absurd e z
    · exact .inl z
    · exact .inr z
theorem LamS.has {X : Cx} {scope : Scope} (L : LamS X.N X.env.scope scope) (ok : X.Ok) : ∀ y ∈ scope.names, y.2 = .free → ∃ c, X.env.cells.lookup y.1 = some c := fun y hy e => by
  rcases L.free y hy e with k | k
  · exact ok.has _ (.inl k)
  · exact ok.has _ (.inr k)
/-- no parameter, or one with an int for a default -/
def LamP (env : Env) (params : Arguments) (body : Expr) (scope : Scope) : Prop :=
  (defaultsOf params env = ([], []) ∧ ∀ q cl pm cv ctv, bindArgs (lamFd q params body scope cl .none pm cv ctv) ⟨[], []⟩ = pure []) ∨
  ∃ (i : Int) (j : Nat) (p : Pos) (x : Str), defaultsOf params env = ([eval (.Constant (.int i) j p) env], []) ∧ scope.names.lookup x = some .local ∧
    ∀ q cl T pm cv ctv, ∃ k, bindArgs (lamFd q params body scope cl (.ref T) pm cv ctv) ⟨[], []⟩ = seqItems? (.ref T) >>= k ∧ ∀ u, k (some #[u]) = pure [(x, u)]
/-- called with nothing it binds so, as long as what is not tracked stays -/
def LamB (X : Cx) (scope : Scope) (H1 : Hp) (s' : Shared) (fd : FuncData) : Prop := ∃ binds : List (Str × Value), (∀ y ∈ binds, scope.names.lookup y.1 = some .local) ∧
  ∀ s1 : Shared, (∀ b o, s'.heap.get? b = some o → H1 b = none → b ∉ frs X.stack → s1.heap.get? b = some o) → BindsTo s1 fd ⟨[], []⟩ binds
section
variable {X : Cx} {pins : List (Addr × Obj)} {σ : L2.St} {H : Hp} {s : Shared}
theorem lam_eval {T : List (Addr × Str)} {c P : Addr} {params : Arguments} {body : Expr} {scope : Scope} {pos : Pos} {Q : Value → Shared → Prop} (I : Inv X pins σ H s) (TB : TabB X.base X.mg c P) (hcode : X.env.code = .ref c)
    (hm : (P, X.env.qual ++ "<lambda>") ∈ T) (hu : ∀ p ∈ T, p.1 = P → p.2 = X.env.qual ++ "<lambda>") (hT : Tabs T H) (hfree : ∀ y ∈ scope.names, y.2 = .free → ∃ c, X.env.cells.lookup y.1 = some c) (hp : LamP X.env params body scope)
    (h : ∀ (f c' : Addr) (dv pm ctv : Value) (H1 : Hp) (s' : Shared), Inv X pins σ H1 s' → ExtN H H1 → (∀ a o, H a = some o → ∃ o', H1 a = some o') → Tabs T H1 →
      s'.heap.get? f = some (lamOb (X.env.qual ++ "<lambda>") params body scope (cloFrom X.env.cells scope.names []) dv pm c' ctv) → H1 f = none → f ∉ frs X.stack → H1 c' = some (CodeO c' (X.env.qual ++ "<lambda>")) →
      LamB X scope H1 s' (lamFd (X.env.qual ++ "<lambda>") params body scope (cloFrom X.env.cells scope.names []) dv pm (.ref c') ctv) → Q (.ref f) s') :
    wpAny (model X.prog X.w) X.A (eval (.Lambda params body scope pos) X.env) Q X.xe s := by
  rw [arm_eval_Lambda]
  rcases hp with ⟨hd, hb⟩ | ⟨i, j, p, x, hd, hx, hb⟩
  · rw [hd]
    refine wpAny_bind (wpAny_pure (wpAny_bind (wpAny_holding (wpAny_pure ?_))))
    rw [makeFunction_eq]
    simp only [List.zip_nil_right, List.filterMap_nil, List.isEmpty_nil, if_true, pure_bind]
    exact lam_made I TB hcode hm hu hT hfree fun f c' pm ctv H1 s' I1 e1 e2 e3 e4 e5 h1 h2 h3 h4 => h f c' .none pm ctv H1 s' I1 e1 e4 (e5 T hu hT) h1 h2 h3 h4 ⟨[], by simp, fun s1 _ => .of_eq (hb _ _ _ _ _)⟩
  · rw [hd]
    refine wpAny_bind (wpAny_bind (thn ((pe_int (X := X) (i := i) (j := j) (pos := p)).run pins s σ H (fun v H1 => v = .int i ∧ H1 = H) I ⟨rfl, rfl⟩) fun u s1 ⟨v, H1, I1, r1, q1, q2⟩ => ?_))
    subst q2
    refine wpAny_bind (wpAny_holding (wpAny_pure (wpAny_pure (wpAny_bind (wpAny_holding (wpAny_pure ?_))))))
    rw [makeFunction_eq]
    simp only [List.zip_nil_right, List.filterMap_nil, List.isEmpty_nil, List.isEmpty_cons, if_true, pure_bind, Bool.false_eq_true, if_false]
    refine wpAny_bind (wpAny_newTextTuple ?_)
    have I2 : Inv X pins σ H1 { s1 with heap := s1.heap.push { cls := .type "tuple", data := .seq [u].toArray } } := I1.kept (t' := s1.toks) fun b o e => Heap.get?_push_of_some _ e
    have fr : H1 s1.heap.objs.size = none := I1.hok.fresh (Nat.le_refl _)
    have at_ : (s1.heap.push { cls := .type "tuple", data := .seq [u].toArray }).get? s1.heap.objs.size = some { cls := .type "tuple", data := .seq [u].toArray } := Heap.get?_push_size _ rfl
    refine lam_made I2 TB hcode hm hu hT hfree fun f c' pm ctv H2 s' I3 e1 e2 e3 e4 e5 h1 h2 h3 h4 => h f c' _ pm ctv H2 s' I3 e1 e4 (e5 T hu hT) h1 h2 h3 h4 ⟨[(x, u)], fun y hy => ?_, fun s2 k => ?_⟩
    · rw [List.mem_singleton.mp hy]
      exact hx
    · have g1 := k _ _ (e3 _ _ at_ fr) (e2 _ fr (show s1.heap.objs.size < (s1.heap.push _).objs.size by rw [Heap.size_push]; exact Nat.lt_succ_self _)) (lam_nofr I1 (Nat.le_refl _))
      obtain ⟨kk, b1, b2⟩ := hb (X.env.qual ++ "<lambda>") (cloFrom X.env.cells scope.names []) s1.heap.objs.size pm (.ref c') ctv
      intro M A E Q' hq
      rw [b1]
      refine wpAny_bind (wpAny_seqItems g1 rfl ?_)
      rw [b2]
      exact wpAny_pure hq
theorem lam_start {HZ : Hp} {s1 : Shared} {A : Around} {outer : List Env} {E : XK} {scope : Scope} {f c' : Addr} {h₁ : Heap} {tk : Nat} {binds : List (Str × Value)} (I : Inv X pins σ H s) (L : LamS X.N X.env.scope scope) (e0 : Env0 X.prog X.w X.K X.mg X.base A outer s1 HZ) (hd : A.handled = none)
    (un : Un (frs X.stack) [] H HZ s.heap s1.heap) (hns : h₁.Ns s1.heap.objs.size fun y => binds.reverse.lookup y) (kp : ∀ b o, s1.heap.get? b = some o → h₁.get? b = some o) :
    Inv (lamCx X A outer s1 HZ E scope f c') [] σ HZ { s1 with heap := h₁, toks := tk } := by
  have hfree := L.has I.ok
  have cm : ∀ {y c}, (cloFrom X.env.cells scope.names []).lookup y = some c → X.env.cells.lookup y = some c := fun {y c} e => by
    rcases cloFrom_mem (PySem.mem_of_lookup e) with hm | ⟨h1, h2⟩
    · cases hm
    · obtain ⟨c1, hc⟩ := hfree _ h1 rfl
      have hc : X.env.cells.lookup y = some c1 := hc
      have e2 : c = c1 := by
        rw [h2, hc] <;> rfl
      rw [e2]
      exact hc
  have look : ∀ {y}, scope.names.lookup y = some .free → ∃ c, (cloFrom X.env.cells scope.names []).lookup y = some c := fun {y} hl => by
    have hy : (y, NameKind.free) ∈ scope.names := PySem.mem_of_lookup hl
    exact mem_lookup (cloFrom_has (cells := X.env.cells) (acc := []) hy)
  have cellK : ∀ {c : Addr} {v : Option Value}, H c = none → s.heap.IsCell c v → h₁.IsCell c v := fun {c v} n ⟨o, ho, hd⟩ => by
    obtain ⟨sl, q⟩ := un.any ho n (by simp)
    exact ⟨_, kp _ _ q, hd⟩
  have noA : ∀ b : Addr, b ∉ (lamCx X A outer s1 HZ E scope f c').ex := fun b z => absurd (show b ∈ ([] : List Addr) from z) (by simp)
  refine ⟨⟨e0.mod, L.kind, rfl, rfl, Nat.le_refl _, fun y z c e1 e2 => I.ok.inj y z c (cm e1) (cm e2), fun y hy => ?_, fun y c z _ => ?_, fun _ => hd, Around.frames_deeper e0.frames, .inr ⟨rfl, rfl⟩, fun b z => absurd z (noA b), e0.bs, e0.bsz, fun b _ _ => noA b,
      fun b z => absurd z (noA b), e0.funs, e0.frf⟩,
    rfl, e0.bare, Un.kept kp, ⟨_, hns, fun i y v e1 e2 e3 => ?_⟩, fun y c e => ?_, e0.hok.fresh (Nat.le_refl _), fun y c e => ?_, fun q hq => absurd (show q ∈ ([] : List (Addr × Obj)) ++ [] from hq) (by simp), e0.hok.kept kp, I.len⟩
  · have hy : scope.names.lookup y = some .cell ∨ scope.names.lookup y = some .free := hy
    rcases hy with hy | hy
    · exact absurd rfl (L.own _ (PySem.mem_of_lookup hy)).1
    · exact look hy
  · have z : false = true := z
    cases z
  · have e3 : Vis scope y := e3
    rcases e3 with k | k | k
    · exact absurd (show y ∈ X.N from List.mem_of_getElem? e1) ((L.own _ (PySem.mem_of_lookup k)).2 rfl)
    · exact absurd rfl (L.own _ (PySem.mem_of_lookup k)).1
    · obtain ⟨m, hn, hl⟩ := I.loc
      have hvis : Vis X.env.scope y := (L.free _ (PySem.mem_of_lookup k) rfl).elim (fun k => .inr (.inl k)) (fun k => .inr (.inr k))
      obtain ⟨w', r, q⟩ := hl i y v e1 e2 hvis
      obtain ⟨c2, h2⟩ := look k
      refine ⟨w', r, .inr ⟨.inr k, c2, h2, ?_⟩⟩
      have c1 := cm h2
      rcases q with ⟨k', _⟩ | ⟨_, c3, e', z⟩
      · have k' : X.env.scope.names.lookup y = some .local := k'
        rcases L.free _ (PySem.mem_of_lookup k) rfl with k2 | k2 <;> rw [show X.env.scope.names.lookup y = _ from k2] at k' <;> cases k'
      · rw [c1] at e'
        cases e'
        exact cellK (I.freeC y _ c1) z
  · obtain ⟨w', z⟩ := I.cell y c (cm e)
    exact ⟨w', cellK (I.freeC y c (cm e)) z⟩
  · obtain ⟨v, o, ho, hd⟩ := I.cell y c (cm e)
    exact un.free c o ho (I.freeC y c (cm e)) (by simp)
/-- x(), in the def that got the lambda: Z is that def's context, entered at s -/
theorem lam_act {CXg : CXT} {Eg : XK} {Ng : List Str} {qg : Str} {sg : Scope} {g f c' : Addr} {cdg dv pm ctv : Value} {params : Arguments} {body : Expr} {scope : Scope} {k i : Nat} {a : Str} {pn : List (Addr × Obj)} {xe : Value → Shared → Prop} {W : WX} {t : XK → TE} {p1 p2 : Pos}
    (I : Inv X pins σ H s) (L : LamS X.N X.env.scope scope) (hf : s.heap.get? f = some (lamOb (X.env.qual ++ "<lambda>") params body scope (cloFrom X.env.cells scope.names []) dv pm c' ctv)) (hfn : H f = none) (hfr : f ∉ frs X.stack)
    (hbind : LamB X scope H s (lamFd (X.env.qual ++ "<lambda>") params body scope (cloFrom X.env.cells scope.names []) dv pm (.ref c') ctv))
    (tk : Takes ((cxOf CXg X.prog X.w X.K X.mg X.base Ng qg sg g cdg X.A X.stack s H Eg).tr pn xe) W) (hr : Room (k + 1) (X.A.deeper (envOfC qg sg s.heap.objs.size g cdg)))
    (hbody : ∀ (A : Around) (outer : List Env) (s : Shared) (H : Hp) (E : XK), A.guards = X.A.guards → Room k (A.deeper (lamEnv X scope s.heap.objs.size f c')) → PE (lamCx X A outer s H E scope f c') body (t E))
    (hN : Ng[i]? = some a) (hv : Vis sg a) (hd : (a == ("__debug__" : Str)) = false) (hcd : (a == ("__classdict__" : Str)) = false) :
    PE ((cxOf CXg X.prog X.w X.K X.mg X.base Ng qg sg g cdg X.A X.stack s H Eg).tr pn xe) (.Call (.Name a p1) [] [] p2)
      (fun σZ HZ Q => ∃ E : XK, (∀ cls d H', E cls d H' → W cls d σZ H') ∧ σZ[i]? = some (some (.ref f)) ∧ HZ c' = some (CodeO c' (X.env.qual ++ "<lambda>")) ∧ t E σ HZ Q) := by
  refine ⟨fun pinsZ sZ σZ HZ Q IZ h => ?_⟩
  obtain ⟨E, hW, hs, hc, ht⟩ := h
  refine wpAny_Call_Name_kw (thn ((pe_var (pos := p1) (i := i) hN hv hd hcd).run pinsZ sZ σZ HZ (fun v H1 => v = .ref f ∧ H1 = HZ) IZ ⟨.ref f, hs, rfl, rfl⟩) fun u s1 ⟨v, H1, I1, r1, q1⟩ => ?_)
  obtain ⟨ev, eH⟩ := q1
  subst ev
  rw [eH] at I1
  obtain rfl : u = Value.ref f := r1
  have kpt : ∀ b o, s.heap.get? b = some o → H b = none → b ∉ frs X.stack → s1.heap.get? b = some o := fun b o e n z => I1.base.keep b _ e n z (fun z => nomatch (show b ∈ ([] : List Addr) from z))
  have of1 : s1.heap.get? f = some (lamOb (X.env.qual ++ "<lambda>") params body scope (cloFrom X.env.cells scope.names []) dv pm c' ctv) := kpt f _ hf hfn hfr
  refine PySem.W.callWith_F0 ⟨_, _, _, _, of1⟩ ?_
  have un : Un (frs X.stack) [] H HZ s.heap s1.heap := I1.base
  obtain ⟨⟨oc, vs, tt, hoc, hdc, hvc⟩, _, _⟩ := I1.hok c' _ hc
  obtain ⟨binds, hloc, hb⟩ := hbind
  have rc : codeAny (model X.prog X.w) (X.A.deeper (envOfC qg sg s.heap.objs.size g cdg)) (.call (.ref f) ⟨[], []⟩) (CR (L2.CX X.prog X.w) (envOfC qg sg s.heap.objs.size g cdg :: X.stack) X.prog X.w HZ s1 Q E) s1 := by
    refine PySem.W.kla_callFunE hr.depth of1 rfl L.co L.gen rfl ⟨c', oc, vs, tt, rfl, hoc, hdc, hvc⟩ (hb s1 kpt _ _ _ _ ?_)
    refine wpAny_newFunctionEnv (fun y hy => (L.own y hy).1) hloc (fun h₁ hns hsb => ⟨I1.nolimit.fresh _ hsb, ?_⟩) L.kind
    show codeAny _ _ (.expr body (lamEnv X scope s1.heap.objs.size f c')) _ _
    have kp : ∀ b o, s1.heap.get? b = some o → h₁.get? b = some o := fun b o e => hsb.extBut b o (Nat.ne_of_lt (Heap.lt_size e)) (Heap.get?_push_of_some _ e)
    have J : Inv (lamCx X (X.A.deeper (envOfC qg sg s.heap.objs.size g cdg)) (envOfC qg sg s.heap.objs.size g cdg :: X.stack) s1 HZ E scope f c') [] σ HZ { s1 with heap := h₁, toks := s1.toks + binds.length } :=
      lam_start I L I1.env0 hr.hd un hns kp
    refine PySem.W.kla_codeExpr (wpAny_mono ((hbody (X.A.deeper (envOfC qg sg s.heap.objs.size g cdg)) _ s1 HZ E rfl (hr.deeper _)).run [] _ _ HZ Q J ht) (fun v s' hq => ?_) fun e s' hq => hq)
    obtain ⟨w', H', J', rv, q⟩ := hq
    exact ⟨w', H', J'.os, J'.bare, J'.base, J'.hok, rv, q⟩
  refine wpAny_call (codeAny_mono rc fun r s' hq => ?_)
  cases r with
  | error e => exact tk e s' (XE.of_call I1 (fun cls d H' h => hW cls d H' h) hq)
  | ok fl =>
    cases fl with
    | ret u => exact I1.after hq
    | next => exact False.elim hq
    | brk => exact False.elim hq
    | cont => exact False.elim hq
end
end VL
namespace VL
open PySem PySem.Spec PyProof.Rows L2
open LamX (CodeO TabS Tabs ExtN TabB lamEnv lamCx)
abbrev Th := Ms → (D → Ms → Prop) → (Exn → Ms → Prop) → Prop
abbrev FTh := Th → Ms → (D → Ms → Prop) → (Exn → Ms → Prop) → Prop
def ThOk (K : PySem.W.Frag) (g0 : Gh) (tl : XK → Hp → VK → Prop) (th : Th) : Prop :=
  ∀ g H n Qd Ed (E : XK) (Q : VK), Gx g0 g → TbOk K g H → GhOk g H n → th n Qd Ed → (∀ g' H' n' v d, Ext g H g' H' → GhOk g' H' n' → DV K g' d v → Qd d n' → Q v H') →
    (∀ g' H' n' x cls dd, Ext g H g' H' → GhOk g' H' n' → ExcOk K g' H' x cls dd → Ed x n' → E cls dd H') → tl E H Q
def spTh (K : PySem.W.Frag) (F : FTh) (tl : XK → Hp → VK → Prop) (H : Hp) (Q : VK) (E : XK) : Prop := ∃ g n th Qd Ed, TbOk K g H ∧ GhOk g H n ∧ ThOk K g tl th ∧ F th n Qd Ed ∧
  (∀ g' H' n' v d, Ext g H g' H' → GhOk g' H' n' → DV K g' d v → Qd d n' → Q v H') ∧ (∀ g' H' n' x cls dd, Ext g H g' H' → GhOk g' H' n' → ExcOk K g' H' x cls dd → Ed x n' → E cls dd H')
def ActH (P : Program) (w : World) (K : PySem.W.Frag) (mg : Str → Option Value) (base : Heap) (A : Around) (outer : List Env) (s : Shared) (H : Hp) (E : XK) (f c' : Addr) (q : Str) (tl : XK → Hp → VK → Prop) : Prop :=
  ∀ (Ng : List Str) (qg : Str) (sg : Scope) (g : Addr) (cdg : Value) (a : Str) (pn : List (Addr × Obj)) (xe : Value → Shared → Prop) (W : WX) (p1 p2 : Pos), Ng[0]? = some a → Vis sg a → (a == ("__debug__" : Str)) = false → (a == ("__classdict__" : Str)) = false →
    Takes ((cxOf (L2.CX P w) P w K mg base Ng qg sg g cdg A outer s H E).tr pn xe) W →
    PE ((cxOf (L2.CX P w) P w K mg base Ng qg sg g cdg A outer s H E).tr pn xe) (.Call (.Name a p1) [] [] p2)
      (fun σZ HZ Q => ∃ Ec : XK, (∀ cls d H', Ec cls d H' → W cls d σZ H') ∧ σZ[0]? = some (some (.ref f)) ∧ HZ c' = some (CodeO c' q) ∧ tl Ec HZ Q)
/-- a def that calls what it gets -/
def HasTh (P : Program) (w : World) (K : PySem.W.Frag) (mg : Str → Option Value) (base : Heap) (x : Str) (k : Nat) (F : FTh) : Prop := ∃ g, mg x = some (.ref g) ∧ PySem.W.keepIn K (.ref g) = true ∧
  ∀ (A : Around) (outer : List Env) (s : Shared) (H : Hp) (f c' : Addr) (q : Str) (Q : VK) (E : XK) (tl : XK → Hp → VK → Prop), Room k A → A.guards = some [] → Env0 P w K mg base A outer s H → ActH P w K mg base A outer s H E f c' q tl →
    H c' = some (CodeO c' q) → spTh K F tl H Q E → codeAny (model P w) A (.call (.ref g) ⟨[.ref f], []⟩) (CR (L2.CX P w) outer P w H s Q E) s
def mThunk (f : Addr) (th : Th) : M D := fun s Q E => s.e[0]? = some (.dat (.adr f)) ∧ th s.n (fun d n' => Q d ⟨s.e, n'⟩) fun x n' => E x ⟨s.e, n'⟩
def Act (X : Cx) (B : Bs) (a : Str) (f : Addr) (th : Th) : Prop := ∀ (pn : List (Addr × Obj)) (xe : Value → Shared → Prop) (W : WX) (p1 p2 : Pos), Takes (X.tr pn xe) W → PM (X.tr pn xe) B W (.Call (.Name a p1) [] [] p2) (mThunk f th)
section
variable {P : Program} {w : World} {K : PySem.W.Frag} {mg : Str → Option Value} {base : Heap}
theorem fn_th {x qual : Str} {params : Arguments} {body : List Stmt} {scope : Scope} {dvs : List V} {kws : List (Str × V)} {g : Addr} {fd : FuncData} {N : List Str} {a : Str} {k : Nat} {F : FTh} {m : Addr → Th → MS} (Fu : FunD K x qual params body scope dvs kws g fd) (hmg : mg x = some (.ref g)) (S : FnScope N [a] scope)
    (hb : Binds K fd [a] []) (hN0 : N[0]? = some a) (hva : Vis scope a) (hd1 : (a == ("__debug__" : Str)) = false) (hd2 : (a == ("__classdict__" : Str)) = false)
    (hder : ∀ (cdv : Value) (A : Around) (outer : List Env) (s : Shared) (H : Hp) (E : XK) (B : Bs) (W : WX) (f : Addr) (th : Th), B.xs = none → Room k (A.deeper (envOfC qual scope s.heap.objs.size g cdv)) → A.guards = some [] →
      Takes (cxOf (L2.CX P w) P w K mg base N qual scope g cdv A outer s H E) W → PassesOwn (model P w) (A.deeper (envOfC qual scope s.heap.objs.size g cdv)) (envOfC qual scope s.heap.objs.size g cdv) (cxOf (L2.CX P w) P w K mg base N qual scope g cdv A outer s H E).xe →
      Act (cxOf (L2.CX P w) P w K mg base N qual scope g cdv A outer s H E) B a f th → PMSs (cxOf (L2.CX P w) P w K mg base N qual scope g cdv A outer s H E) B W body (m f th))
    (hv : ∀ f th n Q E, F th n Q E → m f th ⟨startE N.length [.adr f], n⟩ (endsOf Q E)) : HasTh P w K mg base x (k + 1) F := by
  refine ⟨g, hmg, Fu.kp, fun A outer s H f c' q Q E tl hr hgd e0 act hc hsp => ?_⟩
  obtain ⟨oc, od, dV, kV, doc, pm, an, cdv, ct, osl, rfl, lk, hcd, _, _⟩ := Fu.ex
  have kin : K.In s.heap := e0.mod.kin.keeps fun b o e => (e0.bs b o e).1
  have bb := hb s [.ref f] kin rfl
  rw [List.append_nil] at bb
  refine LamX.run_ofS (CX := L2.CX P w) (mg := mg) (base := base) (N := N) (ps := [a]) (us := [.ref f]) (vs := [.ref f]) lk hcd S hr e0 bb (.cons rfl .nil) rfl fun hr' => ?_
  obtain ⟨g1, n, th, Qd, Ed, tb, ok, hth, hF, hq, he⟩ := hsp
  have act' : Act (cxOf (L2.CX P w) P w K mg base N qual scope g cdv A outer s H E) ⟨g1, H, none, none⟩ a f th := fun pn xe W p1 p2 tk => by
    refine impE (act N qual scope g cdv a pn xe W p1 p2 hN0 hva hd1 hd2 tk) fun σ H' Qv h => ?_
    obtain ⟨gz, sz, Qz, Ez, R, hm, hk, hx⟩ := h
    obtain ⟨v, e1, dv⟩ := R.dat hm.1
    simp only [DV] at dv
    subst dv
    have nz : ¬ zone g1 c' := fun zz => by
      rcases zz with ⟨z, e, y⟩ | l
      · obtain ⟨o, k1, _, k3⟩ := (ok.dr z e).1.atz (a := c') y
        rw [hc] at k1
        exact k3 c' q (Option.some.inj k1).symm
      · obtain ⟨o, k1, _, k3⟩ := ok.mem.there l
        rw [hc] at k1
        exact k3 c' q (Option.some.inj k1).symm
    exact ⟨fun cls d H2 => W cls d σ H2, fun _ _ _ z => z, e1, R.ext.keep c' _ hc nz LamX.codeO_ne, hth gz H' sz.n _ _ _ Qv R.ext.gx R.tb R.gh hm.2 (fun g' H2 n' v d e ok dv q => hk g' _ H2 v d e.gx (R.step e ok) dv q) fun g' H2 n' y cls dd e ok ex q => hx g' _ H2 y cls dd e.gx (R.step e ok) ex q⟩
  refine ⟨_, hder cdv A outer s H E ⟨g1, H, none, none⟩ (fun cls d _ H' => E cls d H') f th rfl hr' hgd (takes_of rfl rfl rfl rfl) (passes_of (X := cxOf (L2.CX P w) P w K mg base N qual scope g cdv A outer s H E) rfl) act', ?_⟩
  have dv : DVs K g1 [.adr f] [.ref f] := .cons (by simp only [DV]) .nil
  refine ⟨g1, _, _, Rel.start ok tb dv, hv f th n Qd Ed hF, ⟨fun g' s' σ' H' x R q => hq g' H' s'.n _ _ R.ext R.gh DV.n q, fun g' n' H' v d x e k dv q => hq g' H' n' v d e k dv q, fun _ _ _ _ _ _ z => z.elim, fun _ _ _ _ _ _ z => z.elim,
    fun g' s' σ' H' e cls dd x R ex q => he g' H' s'.n e cls dd R.ext R.gh ex q⟩⟩
end
def shut : Slot → Slot
  | .own _ => .un
  | sl => sl
/-- f(lambda: e) -/
def mLam (F : FTh) (mb : M D) : M D := fun s Q E => F (fun n Q' E' => mb ⟨s.e.map shut, n⟩ (fun d s' => Q' d s'.n) fun x s' => E' x s'.n) s.n (fun d n' => Q d ⟨s.e, n'⟩) fun x n' => E x ⟨s.e, n'⟩
structure LamT (X : Cx) : Prop where
  ex : ∃ c P, TabB X.base X.mg c P ∧ X.env.code = .ref c ∧ (P, X.env.qual ++ "<lambda>") ∈ TabsOf X.K ∧ ∀ p ∈ TabsOf X.K, p.1 = P → p.2 = X.env.qual ++ "<lambda>"
theorem pm_lam {X : Cx} {B : Bs} {W : WX} {x : Str} {F : FTh} {kk k0 : Nat} {params : Arguments} {body : Expr} {scope : Scope} {mb : M D} {p lpos pos : Pos} (h : HasTh X.prog X.w X.K X.mg X.base x kk F) (hr : Room (k0 + 2) X.A) (hk : kk ≤ k0 + 2) (hgd : X.A.guards = some []) (tk : Takes X W) (LT : LamT X)
    (L : LamS X.N X.env.scope scope) (hp : LamP X.env params body scope)
    (hbody : ∀ (A : Around) (outer : List Env) (s : Shared) (H : Hp) (E : XK) (f c' : Addr) (B : Bs), A.guards = some [] → Room k0 (A.deeper (lamEnv X scope s.heap.objs.size f c')) → Takes (lamCx X A outer s H E scope f c') (fun cls d _ H' => E cls d H') →
      PM (lamCx X A outer s H E scope f c') B (fun cls d _ H' => E cls d H') body mb)
    (hg : Gl X x := by rfl) (hdb : (x == ("__debug__" : Str)) = false := by decide) : PM X B W (.Call (.Name x p) [.Lambda params body scope lpos] [] pos) (mLam F mb) := by
  obtain ⟨gf, hm, hkp, run⟩ := h
  obtain ⟨c, P, TB, hcode, hmT, hu⟩ := LT.ex
  refine ⟨fun pins s σ H Q I hq => ?_⟩
  obtain ⟨g, v, Qd, E, R, hml, hkk, hx⟩ := hq
  refine wpAny_Call_Name_kw (ld_glob I hg hm ?_ hdb)
  refine PySem.W.callWith_K (h₀ := X.base) I.ok.mod.kin hkp ?_ (by rfl) (by rfl)
  show wpAny _ _ (spliced ((false, eval (.Lambda params body scope lpos) X.env) :: backTo pos (starEach [] X.env))) _ _ s
  refine Calls.spliced_cons (lam_eval I TB hcode hmT hu R.tb.s (L.has I.ok) hp fun f c' dv pm ctv H1 s' I1 eN th1 T1 hf hfn hfr hco hB => ?_)
  refine Calls.spliced_nil ⟨I1.kIn, ?_⟩
  have x1 : Ext g H g H1 := ⟨Same.refl _, fun b o e _ nt => eN b o e nt, ⟨rfl, fun _ => by rw [R.tb.1]; exact T1⟩, fun _ _ _ z _ => z, th1, fun z e => ⟨z, e, rfl⟩, fun _ z => .inl z, Lx.refl g, rfl⟩
  have ok1 : GhOk g H1 v.n := ⟨fun b u e => eN b u (R.gh.sub b u e) (R.gh.nt b u e), R.gh.nt, fun z e => by
    obtain ⟨d, hn⟩ := R.gh.dr z e
    exact ⟨⟨eN _ _ d.m fun _ z => (nomatch z), eN _ _ d.c fun _ z => (nomatch z), eN _ _ d.l fun _ z => (nomatch z), d.ne, d.bits, d.clen, d.pos, d.llen⟩, hn⟩, R.gh.off, R.gh.mem.keep (Gx.refl _) rfl rfl R.gh.mem.dz fun a o _ e nt => eN a o e nt⟩
  have R1 : Rel X.K B g ⟨v.e, v.n⟩ σ H1 := R.step x1 ok1
  have rc := run X.A X.stack s' H1 f c' (X.env.qual ++ "<lambda>") Q (WE W σ) (fun E H' Q' => ∃ B', rdE X.K B' (fun cls d _ H' => E cls d H') mb σ H' Q') (hr.mono hk) hgd I1.env0
    (fun Ng qg sg g cdg a pn xe W p1 p2 h1 h2 h3 h4 tk' => lam_act (t := fun E σ H' Q' => ∃ B', rdE X.K B' (fun cls d _ H' => E cls d H') mb σ H' Q') (k := k0) I1 L hf hfn hfr hB tk' (hr.deeper _)
      (fun A outer s H E hA hr2 => ⟨fun pins s2 σ2 H2 Q2 I2 ⟨B', q2⟩ => (hbody A outer s H E f c' B' (hA.trans hgd) hr2 (takes_of rfl rfl rfl rfl)).run pins s2 σ2 H2 Q2 I2 q2⟩) h1 h2 h3 h4) hco
    ⟨g, v.n, _, _, _, R1.tb, ok1, fun g2 H2 n2 Qd2 Ed2 E2 Q2 gx tb2 ok2 hth hk2 hx2 => ?_, hml, fun g' H' n' u d e ok dv q => hkk g' _ H' u d e.gx (R1.step e ok) dv q, fun g' H' n' y cls dd e ok ex q => hx g' _ H' y cls dd e.gx (R1.step e ok) ex q⟩
  · refine wpAny_call (codeAny_mono rc fun r s2 hq => ?_)
    cases r with
    | error e => exact passAt tk σ pins H1 s' e s2 I1 hq
    | ok fl =>
      cases fl with
      | ret u => exact I1.after hq
      | next => exact False.elim hq
      | brk => exact False.elim hq
      | cont => exact False.elim hq
  · have sh : ∀ (i : Nat) sl, (v.e.map shut)[i]? = some sl → sl = .un ∨ ∃ d, sl = .dat d ∧ v.e[i]? = some (.dat d) := fun i sl e => by
      rw [List.getElem?_map] at e
      cases e2 : v.e[i]? with
      | none => rw [e2] at e; cases e
      | some s0 =>
        rw [e2] at e
        cases s0 with
        | un => exact .inl (Option.some.inj e).symm
        | own c => exact .inl (Option.some.inj e).symm
        | dat d => exact .inr ⟨d, (Option.some.inj e).symm, rfl⟩
    refine ⟨⟨g2, H2, none, none⟩, g2, ⟨v.e.map shut, n2⟩, _, _, ⟨ok2, Ext.refl _ _, by rw [← R.len]; exact List.length_map _, fun i sl o h1 h2 => ?_, fun i j xs ys h1 => ?_, fun _ _ z => (nomatch z), fun _ z => (nomatch z), tb2⟩, hth, fun g' s' H' u d x R' dv q => hk2 g' H' s'.n u d R'.ext R'.gh dv q, fun g' s' H' y cls dd x R' ex q => hx2 g' H' s'.n y cls dd R'.ext R'.gh ex q⟩
    · rcases sh i sl h1 with rfl | ⟨d, rfl, e⟩
      · trivial
      · obtain ⟨u, e1, e2⟩ := R.sl i _ o e h2
        exact ⟨u, e1, e2.mono gx⟩
    · rcases sh i _ h1 with e | ⟨d, e, _⟩ <;> cases e
end VL
namespace VL
open PySem L2
section
variable {P : Program} {w : World} {K : PySem.W.Frag} {mg : Str → Option Value} {base : Heap}
/-- by its body, the code object told -/
theorem fnG_ofC {x qual : Str} {params : Arguments} {body : List Stmt} {scope : Scope} {dvs : List V} {kws : List (Str × V)} {f : Addr} {fd : FuncData} {N ps : List Str} {k : Nat} {sp : Sp} (F : FunD K x qual params body scope dvs kws f fd) (S : FnScope N ps scope)
    (len : ∀ vs H Q E, sp vs H Q E → vs.length = ps.length)
    (hbody : ∀ (A : Around) (outer : List Env) (s : Shared) (H : Hp) (vs : List V) (Q : VK) (E : XK), Room k (A.deeper (PyProof.Rows.envOfC qual scope s.heap.objs.size f fd.code)) → A.guards = some [] → sp vs H Q E →
      ∃ t, PSs (cxOf (L2.CX P w) P w K mg base N qual scope f fd.code A outer s H E) body t ∧ t { nx := fun _ H' => Q .non H', rt := Q } (L2.start N vs) H) : FnG P w K mg base (k + 1) f fd ps sp := by
  obtain ⟨oc, od, dV, kV, doc, pm, an, cdv, ct, osl, rfl, lk, hcd, _, _⟩ := F.ex
  refine ⟨len, fun A outer s H args us vs Q E hr hgd env bnd rel hsp => ?_⟩
  have hlen := len _ _ _ _ hsp
  have inK : K.In s.heap := env.mod.kin.keeps fun c o q => (env.bs c o q).1
  have noL : s.heap.NoLimit := env.mod.nolimit.keeps fun c o q => (env.bs c o q).1
  have kinds : ∀ y ∈ ps.zip us, scope.names.lookup y.1 = some .local ∨ (scope.names.lookup y.1 = some .cell ∧ ((cellsFrom (s.heap.objs.size + 1) scope.names []).lookup y.1).isSome = true) := by
    rintro ⟨n, v⟩ hy
    rcases S.par n (List.of_mem_zip hy).1 with z | z
    · exact .inl z
    · exact .inr ⟨z, PySem.W.cellsFrom_some _ _ _ (.inl z)⟩
  refine codeAny_call_function hr.depth (inK _ _ lk) rfl S.co S.gen rfl (PySem.W.codeRec_of inK hcd) (bnd _ _ _ _ ?_)
  refine wpAny_newFunctionEnv_cells S.kind kinds fun en hen s1 st => ?_
  subst hen
  refine ⟨noL.keeps st.toInCall.keep, codeAny_func ?_⟩
  obtain ⟨t, ht, hq⟩ := hbody A outer s H vs Q E (hr.deeper _) hgd hsp
  have I : Inv (cxOf (L2.CX P w) P w K mg base N qual scope f cdv A outer s H E) [] (L2.start N vs) H s1 := inv_start S hr.hd env hlen rel st
  refine wpAny_mono (ht.run [] s1 (L2.start N vs) H _ I hq) (fun fl s' hs => ?_) fun e s' hs => hs
  have done : ∀ {τ : L2.St} {H' : Hp} {v : V} {u : Value}, Inv (cxOf (L2.CX P w) P w K mg base N qual scope f cdv A outer s H E) [] τ H' s' → RelV v u → Q v H' → CE outer P w H s Q u s' :=
    fun {τ H' v u} J rv q => ⟨v, H', J.os, J.bare, J.base, J.hok, rv, q⟩
  cases fl with
  | ret u =>
    obtain ⟨v, τ, H', J, rv, q⟩ := hs
    exact done J rv q
  | next =>
    obtain ⟨τ, H', J, q⟩ := hs
    exact done (v := V.non) (u := Value.none) J rfl q
  | brk => exact hs.elim fun _ z => z.elim fun _ z => z.2.elim
  | cont => exact hs.elim fun _ z => z.elim fun _ z => z.2.elim
theorem fn_valC {x qual : Str} {params : Arguments} {body : List Stmt} {scope : Scope} {dvs : List V} {kws : List (Str × V)} {f : Addr} {fd : FuncData} {N ps : List Str} {k n : Nat} {F : FT} {m : MS} (Fu : FunD K x qual params body scope dvs kws f fd) (S : FnScope N ps scope) (hn : ps.length = n)
    (hder : ∀ (A : Around) (outer : List Env) (s : Shared) (H : Hp) (E : XK) (B : Bs) (W : WX), B.xs = none → Room k (A.deeper (PyProof.Rows.envOfC qual scope s.heap.objs.size f fd.code)) → A.guards = some [] →
      Takes (cxOf (L2.CX P w) P w K mg base N qual scope f fd.code A outer s H E) W → PassesOwn (model P w) (A.deeper (PyProof.Rows.envOfC qual scope s.heap.objs.size f fd.code)) (PyProof.Rows.envOfC qual scope s.heap.objs.size f fd.code) (cxOf (L2.CX P w) P w K mg base N qual scope f fd.code A outer s H E).xe →
      PMSs (cxOf (L2.CX P w) P w K mg base N qual scope f fd.code A outer s H E) B W body m)
    (hv : ∀ ds n Q E, F ds n Q E → m ⟨startE N.length ds, n⟩ (endsOf Q E)) : FnG P w K mg base (k + 1) f fd ps (spOf K n F) := by
  subst hn
  refine fnG_ofC Fu S (fun vs H Q E h => h.1) fun A outer s H vs Q E hr hg hsp => ?_
  obtain ⟨hl, g, m', ds, Qd, Ed, ht, ok, dv, hf, hq, he⟩ := hsp
  refine ⟨_, hder A outer s H E ⟨g, H, none, none⟩ (fun cls d _ H' => E cls d H') rfl hr hg (takes_of rfl rfl rfl rfl) (passes_of (X := cxOf (L2.CX P w) P w K mg base N qual scope f fd.code A outer s H E) rfl), ?_⟩
  refine ⟨g, _, _, Rel.start ok ht dv, hv ds m' Qd Ed hf, ⟨fun g' s' σ' H' x R q => hq g' H' s'.n _ _ R.ext R.gh DV.n q, fun g' n' H' v d x e k dv q => hq g' H' n' v d e k dv q, fun _ _ _ _ _ _ z => z.elim, fun _ _ _ _ _ _ z => z.elim,
    fun g' s' σ' H' e cls dd x R ex q => he g' H' s'.n e cls dd R.ext R.gh ex q⟩⟩
end
/-- the code objects and their tables -/
def csOf (K : PySem.W.Frag) : List (Addr × Addr) := (lamDefs.filter (isFnK K)).map fun x => He.cT K (x, none)
structure TabsAt (h : Heap) (K : PySem.W.Frag) : Prop where
  hd : ∀ p ∈ csOf K, PySem.W.codeHdIn K p.1 p.2 = true
  out : ∀ p ∈ csOf K, K.lookup p.2 = none
  empty : ∀ p ∈ csOf K, h.get? p.2 = some { cls := .none, data := .fields #[] }
  nd : ((csOf K).map (·.2)).Nodup
theorem nodup_inj {α β : Type} {f : α → β} : ∀ {l : List α}, (l.map f).Nodup → ∀ x ∈ l, ∀ y ∈ l, f x = f y → x = y
  | [], _, _, h, _, _, _ => by cases h
  | a :: l, nd, x, hx, y, hy, e => by
    rw [List.map_cons, List.nodup_cons] at nd
    rcases List.mem_cons.mp hx with e1 | h1
    · rcases List.mem_cons.mp hy with e2 | h2
      · rw [e1, e2]
      · exact (nd.1 (by rw [← e1, e]; exact List.mem_map_of_mem h2)).elim
    · rcases List.mem_cons.mp hy with e2 | h2
      · exact (nd.1 (by rw [← e2, ← e]; exact List.mem_map_of_mem h1)).elim
      · exact nodup_inj nd.2 x h1 y h2 e
theorem lamT_of {P : Program} {w : World} {K : PySem.W.Frag} {mg : Str → Option Value} {base h : Heap} {CX : CXT} {N : List Str} {x : Str} {params : Arguments} {body : List Stmt} {scope : Scope} {dvs : List V} {kws : List (Str × V)} {fd : FuncData} {A : Around} {outer : List Env} {s : Shared} {H : Hp} {E : XK}
    (TA : TabsAt h K) (TB : ∀ p ∈ csOf K, LamX.TabB base mg p.1 p.2) (hx : x ∈ lamDefs) (Fu : FunD K x x params body scope dvs kws (He.fAd K (x, none)) fd) : LamT (cxOf CX P w K mg base N x scope (He.fAd K (x, none)) fd.code A outer s H E) := by
  obtain ⟨oc, od, dV, kV, doc, pm, an, cdv, ct, osl, rfl, lk, hcd, _, _⟩ := Fu.ex
  obtain ⟨c, rfl⟩ := He.codeIn_ref hcd
  have ec : He.codeOf K (x, none) = c := He.codeOf_eq lk rfl
  have hf : isFnK K x = true := by
    have lk' : K.lookup (He.ga K x) = _ := lk
    unfold isFnK
    rw [lk']
  have hxm : x ∈ lamDefs.filter (isFnK K) := List.mem_filter.mpr ⟨hx, hf⟩
  have hm : He.cT K (x, none) ∈ csOf K := List.mem_map.mpr ⟨x, hxm, rfl⟩
  refine ⟨c, (He.cT K (x, none)).2, ?_, rfl, List.mem_map.mpr ⟨x, hxm, rfl⟩, fun p hp e => ?_⟩
  · have := TB _ hm
    have e1 : (He.cT K (x, none)).1 = c := ec
    rw [e1] at this
    exact this
  · obtain ⟨y, hy, rfl⟩ := List.mem_map.mp hp
    have nd := TA.nd
    unfold csOf at nd
    rw [List.map_map] at nd
    have exy : y = x := nodup_inj nd y hy x hxm e
    rw [exy]
    rfl
section
variable {P : Program} {w : World} {K : PySem.W.Frag} {mg mb : Str → Option Value} {k : Nat} {fa a : Addr} {fd : FuncData} {x : Str} {sp : Sp} {s : Shared} {vs : List Value} {ns : List Int} {cs : List (Addr × Addr)}
theorem end_coreT (KX : K.In s.heap) (gn : s.heap.Ns mainGlobals mg) (bn : s.heap.Ns builtinsNs mb) (bb : ∀ z : Str, z ≠ "__name__" → mb z = bootBuiltins z) (nl : s.heap.NoLimit) (hg : s.gens = #[])
    (hT : ∀ p ∈ cs, s.heap.get? p.2 = some { cls := .none, data := .fields #[] }) (nT : ∀ p ∈ cs, K.lookup p.2 = none) (C : ∀ p ∈ cs, PySem.W.CodeHd s.heap p.1 p.2)
    (hbm : ∃ (bm : Addr) (ob : Obj), mg "__builtins__" = some (.ref bm) ∧ bm ≠ builtinsNs ∧ s.heap.get? bm = some ob ∧ ob.cls = .type "module" ∧ ob.dict = some builtinsNs ∧ ob.data = .plain)
    (ha : s.heap.get? a = some { cls := .type "list", data := .seq vs.toArray }) (hr : Room k callerA) (hgd : callerA.guards = some [])
    (F : ∀ base : Heap, K.In base → base.Ns mainGlobals mg → (∀ p ∈ cs, LamX.TabB base mg p.1 p.2) → FnG P w K mg base k fa fd [x] sp) (hbind : ∀ (t : Shared) (u : Value), BindsTo t fd ⟨[u], []⟩ [(x, u)]) {H : Hp}
    (hH : ∀ p ∈ cs, H p.2 = some (.tbl #[])) (hO : ∀ b, H b = none ∨ b ∈ cs.map (·.2) ∨ ∃ o xs, H b = some (.frz o (.lst xs)))
    (hsp : sp [.ref a] H (fun v _ => v = .bl true) fun _ _ _ => False) (hok : HOk P w H s.heap) (only : ∀ b u, H b = some u → b = a ∨ b ∈ cs.map (·.2)) (out : ∀ u, H a = some u → K.lookup a = none) :
    codeAny (model P w) callerA (.call (.ref fa) ⟨[.ref a], []⟩) (TrueK s) s := by
  have isT : ∀ b : Addr, b ∈ cs.map (·.2) → s.heap.get? b = some { cls := .none, data := .fields #[] } := fun b hb => by
    obtain ⟨p, hp, e⟩ := List.mem_map.mp hb
    rw [← e]
    exact hT p hp
  have seen : ∀ {b : Addr} {o : Obj}, s.heap.get? b = some o → H b = none → (hidT s.heap H).get? b = some o := fun q z => hidT_get q z
  have nd : ∀ {b : Addr} {o : Obj}, s.heap.get? b = some o → (∀ us n, o.data ≠ .seq us n) → o.data ≠ .fields #[] → H b = none := by
    intro b o q z1 z2
    rcases hb : H b with _ | u
    · rfl
    · rcases only b u hb with eb | eb
      · rw [eb, ha] at q
        cases q
        exact (z1 _ _ rfl).elim
      · rw [isT b eb] at q
        cases q
        exact (z2 rfl).elim
  have nsB : ∀ {b : Addr} {m : Str → Option Value}, s.heap.Ns b m → (hidT s.heap H).Ns b m := by
    rintro b m ⟨o, es, ep, q, z, r⟩
    exact ⟨o, es, ep, seen q (nd q (fun _ _ y => by rw [z] at y; cases y) (fun y => by rw [z] at y; cases y)), z, r⟩
  have KB : K.In (hidT s.heap H) := by
    intro b o q
    refine seen (KX b o q) ?_
    rcases hb : H b with _ | u
    · rfl
    · rcases only b u hb with eb | eb
      · rw [eb] at q hb
        rw [out u hb] at q
        cases q
      · obtain ⟨p, hp, ep⟩ := List.mem_map.mp eb
        rw [← ep, nT p hp] at q
        cases q
  have TB : ∀ p ∈ cs, LamX.TabB (hidT s.heap H) mg p.1 p.2 := fun p hp => by
    have hTp := hT p hp
    refine ⟨?_, ?_, fun z => ?_⟩
    · obtain ⟨o, us, file, tf, flags, tg, inF, text, tt, e1, r1, r2, r3, r4, r5, r6, r7, r8, hne⟩ := C p hp
      refine ⟨o, us, file, tf, flags, tg, inF, text, tt, seen e1 (nd e1 (fun vs n z => ?_) fun z => ?_), r1, r2, r3, r4, r5, r6, r7, r8, hne⟩
      · rw [r2] at z
        cases z
      · rw [r2] at z
        cases z
        simp at r3
    · obtain ⟨bm, ob, b1, b2, b3, b4, b5, b6⟩ := hbm
      have nG : bm ≠ mainGlobals := fun q => by
        obtain ⟨o, es, ep, e, hd, _⟩ := gn
        rw [q, e] at b3
        cases b3
        rw [hd] at b6
        cases b6
      have nP : bm ≠ p.2 := fun q => by
        rw [q, hTp] at b3
        cases b3
        cases b6
      refine ⟨bm, ob, b1, b2, nG, nP, seen b3 (nd b3 (fun vs n z => ?_) fun z => ?_), b4, b5, b6⟩
      · rw [b6] at z
        cases z
      · rw [b6] at z
        cases z
    · obtain ⟨o, es, ep, e, hd, _⟩ := gn
      rw [z, hTp] at e
      cases e
      cases hd
  obtain ⟨mc, l1, l2⟩ := nl
  have md : Mod K mg (hidT s.heap H) := ⟨KB, nsB gn, ⟨mb, nsB bn, bb⟩, ⟨mc, nsB l1, l2⟩⟩
  have ev : Env0 P w K mg (hidT s.heap H) callerA [] s H := ⟨rfl, md, fun _ _ q => of_hidT q, Nat.le_of_eq (hidT_size _ _), trivial, fun _ z => absurd (show _ ∈ ([] : List Addr) from z) (by simp), hok, .of_eq hg⟩
  refine codeAny_mono ((F _ KB (nsB gn) TB).run callerA [] s H ⟨[.ref a], []⟩ [.ref a] [.ref a] _ _ hr hgd ev (hbind s (.ref a)) (.cons rfl .nil) hsp) fun r t h => ?_
  rcases r with e | fl
  · obtain ⟨_, _, _, _, _, _, _, _, _, _, _, _, z⟩ := h
    exact False.elim z
  · cases fl with
    | ret u =>
      obtain ⟨v, H', os, bare, un, hok', rv, q⟩ := h
      obtain rfl : v = .bl true := q
      obtain rfl : u = Value.bool true := rv
      have key : ∀ b o, b ∉ cs.map (·.2) → s.heap.get? b = some o → t.heap.get? b = some o := fun b o nb e => by
        rcases hO b with z | z | ⟨ob, xs, z⟩
        · exact un.keep b o e z (fun y => absurd (show b ∈ ([] : List Addr) from y) (by simp)) (by simp)
        · exact absurd z nb
        · obtain ⟨e1, _⟩ := hok b _ z
          obtain ⟨e2, _⟩ := hok' b _ (un.frzs b ob _ z)
          rw [e] at e1
          cases e1
          exact e2
      have grown : ∀ p ∈ cs, ∃ more : Array Value, t.heap.get? p.2 = some { cls := .none, data := .fields more } := fun p hp => by
        obtain ⟨more, z⟩ := un.tbls p.2 #[] (hH p hp)
        exact ⟨_, hok' p.2 _ z⟩
      refine ⟨rfl, ⟨fun b o e => ?_, fun b o e => ?_⟩, os, bare⟩
      · by_cases hb : b ∈ cs.map (·.2)
        · obtain ⟨p, hp, ep⟩ := List.mem_map.mp hb
          obtain ⟨more, hm⟩ := grown p hp
          rw [← ep] at e ⊢
          rw [hT p hp] at e
          cases e
          exact .inr (.inl ⟨((C p hp).tab (hT p hp)).isCodeTable, rfl, #[], more, rfl, by rw [Array.empty_append]; exact hm⟩)
        · exact .inl (key b o hb e)
      · by_cases hb : b ∈ cs.map (·.2)
        · obtain ⟨p, hp, ep⟩ := List.mem_map.mp hb
          obtain ⟨more, hm⟩ := grown p hp
          rw [← ep]
          exact ⟨_, hm⟩
        · exact ⟨o, key b o hb e⟩
    | next => exact False.elim h
    | brk => exact False.elim h
    | cont => exact False.elim h
theorem end_callT (KX : K.In s.heap) (gn : s.heap.Ns mainGlobals mg) (bn : s.heap.Ns builtinsNs mb) (bb : ∀ z : Str, z ≠ "__name__" → mb z = bootBuiltins z) (nl : s.heap.NoLimit) (hg : s.gens = #[])
    (hT : ∀ p ∈ cs, s.heap.get? p.2 = some { cls := .none, data := .fields #[] }) (nT : ∀ p ∈ cs, K.lookup p.2 = none) (C : ∀ p ∈ cs, PySem.W.CodeHd s.heap p.1 p.2)
    (hbm : ∃ (bm : Addr) (ob : Obj), mg "__builtins__" = some (.ref bm) ∧ bm ≠ builtinsNs ∧ s.heap.get? bm = some ob ∧ ob.cls = .type "module" ∧ ob.dict = some builtinsNs ∧ ob.data = .plain)
    (ha : s.heap.get? a = some { cls := .type "list", data := .seq vs.toArray }) (hi : PyProof.Rows.IntsAre vs ns) (hl : ns.length ≤ sizeLine) (hr : Room k callerA) (hgd : callerA.guards = some [])
    (F : ∀ base : Heap, K.In base → base.Ns mainGlobals mg → (∀ p ∈ cs, LamX.TabB base mg p.1 p.2) → FnG P w K mg base k fa fd [x] sp) (hbind : ∀ (t : Shared) (u : Value), BindsTo t fd ⟨[u], []⟩ [(x, u)])
    (hsp : ∀ H : Hp, (∀ p ∈ cs, H p.2 = some (.tbl #[])) → SqL K H a (ns.map V.int) → sp [.ref a] H (fun v _ => v = .bl true) fun _ _ _ => False) : codeAny (model P w) callerA (.call (.ref fa) ⟨[.ref a], []⟩) (TrueK s) s := by
  have rel := vals_ints hi
  have isT : ∀ b : Addr, b ∈ cs.map (·.2) → s.heap.get? b = some { cls := .none, data := .fields #[] } := fun b hb => by
    obtain ⟨p, hp, e⟩ := List.mem_map.mp hb
    rw [← e]
    exact hT p hp
  have aT : a ∉ cs.map (·.2) := fun z => by
    have q := isT a z
    rw [ha] at q
    have z' : Data.seq vs.toArray _ = Data.fields #[] := congrArg Obj.data (Option.some.inj q)
    cases z'
  have memT : ∀ p ∈ cs, p.2 ∈ cs.map (·.2) := fun p hp => List.mem_map.mpr ⟨p, hp, rfl⟩
  rcases hk : K.lookup a with _ | o
  · have hH : ∀ p ∈ cs, (if p.2 = a then some (HO.frz { cls := .type "list", data := .seq vs.toArray } (.lst (ns.map V.int))) else if p.2 ∈ cs.map (·.2) then some (.tbl #[]) else none) = some (.tbl #[]) := fun p hp => by
      rw [if_neg (show ¬ p.2 = a from fun z => aT (by rw [← z]; exact memT p hp)), if_pos (memT p hp)]
    have here : ∀ b u, (if b = a then some (HO.frz { cls := .type "list", data := .seq vs.toArray } (.lst (ns.map V.int))) else if b ∈ cs.map (·.2) then some (.tbl #[]) else none) = some u → (b = a ∧ u = .frz { cls := .type "list", data := .seq vs.toArray } (.lst (ns.map V.int))) ∨ (b ∈ cs.map (·.2) ∧ u = .tbl #[]) := by
      intro b u z
      by_cases hb : b = a
      · rw [if_pos hb] at z
        cases z
        exact .inl ⟨hb, rfl⟩
      · rw [if_neg hb] at z
        by_cases hb2 : b ∈ cs.map (·.2)
        · rw [if_pos hb2] at z
          cases z
          exact .inr ⟨hb2, rfl⟩
        · rw [if_neg hb2] at z
          cases z
    refine end_coreT (H := fun b => if b = a then some (.frz { cls := .type "list", data := .seq vs.toArray } (.lst (ns.map V.int))) else if b ∈ cs.map (·.2) then some (.tbl #[]) else none) KX gn bn bb nl hg hT nT C hbm ha hr hgd F hbind hH (fun b => ?_) (hsp _ hH (.inl (.inr ⟨_, if_pos rfl⟩))) (fun b u z => ?_) (fun b u z => ?_) fun _ _ => hk
    · by_cases hb : b = a
      · exact .inr (.inr ⟨_, _, if_pos hb⟩)
      · by_cases hb2 : b ∈ cs.map (·.2)
        · exact .inr (.inl hb2)
        · exact .inl ((if_neg hb).trans (if_neg hb2))
    · rcases here b u z with ⟨rfl, rfl⟩ | ⟨e1, rfl⟩
      · exact ⟨ha, by rw [List.length_map]; exact hl, vs, _, rel, ha⟩
      · exact isT b e1
    · rcases here b u z with ⟨e, _⟩ | ⟨e, _⟩
      · exact .inl e
      · exact .inr e
  · have e := KX a o hk
    rw [ha] at e
    cases e
    have hH : ∀ p ∈ cs, (if p.2 ∈ cs.map (·.2) then some (HO.tbl #[]) else none) = some (.tbl #[]) := fun p hp => if_pos (memT p hp)
    have here : ∀ b u, (if b ∈ cs.map (·.2) then some (HO.tbl #[]) else none) = some u → b ∈ cs.map (·.2) ∧ u = .tbl #[] := fun b u z => by
      by_cases hb : b ∈ cs.map (·.2)
      · rw [if_pos hb] at z
        cases z
        exact ⟨hb, rfl⟩
      · rw [if_neg hb] at z
        cases z
    refine end_coreT (H := fun b => if b ∈ cs.map (·.2) then some (.tbl #[]) else none) KX gn bn bb nl hg hT nT C hbm ha hr hgd F hbind hH (fun b => ?_) (hsp _ hH (.inr ⟨_, vs.toArray, _, hk, rfl, rfl, rfl, by rw [List.size_toArray, hi.length]; exact hl, by simpa using rel⟩)) (fun b u z => ?_) (fun b u z => .inr (here b u z).1) fun u z => (aT (here a u z).1).elim
    · by_cases hb : b ∈ cs.map (·.2)
      · exact .inr (.inl hb)
      · exact .inl (if_neg hb)
    · obtain ⟨e1, rfl⟩ := here b u z
      exact isT b e1
end
theorem walk_GT {l : PySem.W.OpenLaw} {n k : Nat} {q : Program} {loose : List Str} {XP : (Str → Option Value) → Heap → Prop} {YP : World → Heap → Prop} {d : DefRec} {x : Str}
    (hn : l.most = some n) (hn2 : n ≤ sizeLine) (hdf : d.params.defaults = []) (hr : Room k callerA) (hgd : callerA.guards = some [])
    (F : ∀ (w : World) (mg : Str → Option Value) (fa : Addr) (h : Heap), YP w h → h.Ns mainGlobals mg → mg d.name = some (.ref fa) →
      ∃ (K : PySem.W.Frag) (fd : FuncData) (FF : FT), K.In h ∧ TabsAt h K ∧ (∀ (t : Shared) (u : Value), BindsTo t fd ⟨[u], []⟩ [(x, u)]) ∧
        (∀ ns : List Int, ns.length ≤ n → (∀ z ∈ ns, Builtin.Int.intBits z ≤ 1048576) → ∀ Q E, (∀ m, Q (.bl true) m) → FF [.scr ns] m0 Q E) ∧
        ∀ base : Heap, K.In base → base.Ns mainGlobals mg → (∀ p ∈ csOf K, LamX.TabB base mg p.1 p.2) → FnG l.prog w K mg base k fa fd [x] (spOf K 1 FF)) :
    PySem.W.WalkO q loose XP YP l.row.toRowW d [] (fun f vs => PySem.call f vs) := by
  refine Att.attach_callB hn hdf fun w s0 s1 mg mb fa o pm cd doc a vs ns G Y ho hd hcd hmg hobj hints hlen hbits hg => ?_
  obtain ⟨K, fd, FF, KX, TA, hb, hsp, hF⟩ := F w mg fa _ Y G.T.g hmg
  refine end_callT KX G.T.g G.T.b G.T.builtins G.T.nolimit hg TA.empty TA.out (fun p hp => PySem.W.codeHd_of_K KX (TA.hd p hp)) G.T.bmain hobj hints (Nat.le_trans hlen hn2) hr hgd hF hb fun H hH hS => ?_
  refine sp_top (fun p hp => ?_) hS (hsp ns hlen hbits)
  obtain ⟨y, hy, rfl⟩ := List.mem_map.mp hp
  exact LamX.TabS.nil (hH (He.cT K (y, none)) (List.mem_map.mpr ⟨y, hy, rfl⟩))
def tabsB (g : Addr → Option Obj) (K : PySem.W.Frag) : Bool := ((csOf K).all fun p => PySem.W.codeHdIn K p.1 p.2 && (match g p.2 with
  | some o => He.emptyTab o
  | none => false)) && decide ((csOf K).map (·.2)).Nodup
abbrev AlT : Type := AlX × Bool
end VL
namespace VL
open PySem L2
section
variable {X : Cx} {B : Bs} {W : WX} {a b c : Expr} {es : List Expr} {ma mb mc : M D} {mes : M (List D)} {ta tb : M Bool} {p pos : Pos} {st : Stmt} {sts : List Stmt} {m k : MS}
theorem DVs.snoc {K : PySem.W.Frag} {g : Gh} {d : D} : ∀ {r : List D} {vs : List V}, DVs K g (r ++ [d]) vs → ∃ us v, vs = us ++ [v] ∧ DVs K g r us ∧ DV K g d v
  | [], vs, h => by
    obtain ⟨v, rfl, h1⟩ := DVs.one h
    exact ⟨[], v, rfl, .nil, h1⟩
  | e :: r, vs, h => by
    cases vs with
    | nil => have := h.length; simp at this
    | cons v vs =>
      have h1 : DV K g e v ∧ DVs K g (r ++ [d]) vs := by
        simp only [List.cons_append, DVs] at h
        obtain ⟨v1, r1, e1, h1, h2⟩ := h
        cases e1
        exact ⟨h1, h2⟩
      obtain ⟨us, u, e1, e2, e3⟩ := DVs.snoc h1.2
      exact ⟨v :: us, u, by rw [e1]; rfl, .cons h1.1 e2, e3⟩
end
end VL
namespace PySem.SeqAt
open AutoSeq1 (wpAny_loadPart')
open MeetsSeq
theorem dict_eq_declines_str (l : Addr) (es : Array DictEntry) (n : Nat) (dd : Option Addr) (sl : Array (Option Value)) (b : Str) (u : Tok) :
    Meets (Builtin.«dict.__eq__» ⟨[.ref l, .str b u], []⟩) (fun _ R s => s.heap.get? l = some { cls := .type "dict", dict := dd, data := .dict es n, slots := sl } ∧ R (.ok (.ret .notImplemented)) s) :=
  .of_wp fun prog w A R s h => by obtain ⟨hp, g, d, tk, os⟩ := s; obtain ⟨hl, h⟩ := h; have f1 := F.sub_str_dict; wp_walk using wpAny_loadPart' hl, wpAny_load hl; exact ⟨_, rfl, h⟩
theorem str_eq_declines_dict (b : Str) (u : Tok) (l : Addr) (c : Value) (es : Array DictEntry) (n : Nat) (dd : Option Addr) (sl : Array (Option Value)) :
    Meets (Builtin.«str.__eq__» ⟨[.str b u, .ref l], []⟩) (fun _ R s => s.heap.get? l = some { cls := c, dict := dd, data := .dict es n, slots := sl } ∧ R (.ok (.ret .notImplemented)) s) :=
  .of_wp fun prog w A R s h => by obtain ⟨hp, g, d, tk, os⟩ := s; obtain ⟨hl, h⟩ := h; wp_walk using wpAny_loadPart' hl, wpAny_load hl; exact ⟨_, rfl, h⟩
section
variable {A : Around} {s : Shared}
theorem RcAt.dict_str {l : Addr} {es : Array DictEntry} {n : Nat} {dd : Option Addr} {sl : Array (Option Value)} (b : Str) (u : Tok) (ho : s.heap.get? l = some { cls := .type "dict", dict := dd, data := .dict es n, slots := sl }) (hu : A.units < cLine) : RcAt A s (.ref l) (.str b u) false := fun prog w E Q h =>
  rc_eq_decline_or (k := false) ⟨_, ho, rfl⟩ (typeIs_str s b u) (by decide) F.sub_str_dict F.slot_dict_eq F.slot_str_eq_refl
    (fun _ hq => call_meets F.slot_dict_eq ⟨_, ho, rfl⟩ F.entry_dict_eq (F.args_dict_eq_2 _ _) (dict_eq_declines_str l es n dd sl b u) ⟨ho, hq⟩)
    (fun _ hq => call_meets F.slot_str_eq_refl (typeIs_str s b u) F.entry_str_eq (F.args_str_eq_2 _ _) (str_eq_declines_dict b u l (.type "dict") es n dd sl) ⟨ho, hq⟩)
    (fun _ hq => wpAny_of_eq (rfl : isSame (.ref l) (.str b u) = pure false) hq) (.inr hu) h
theorem RcAt.str_dict {l : Addr} {es : Array DictEntry} {n : Nat} {dd : Option Addr} {sl : Array (Option Value)} (b : Str) (u : Tok) (ho : s.heap.get? l = some { cls := .type "dict", dict := dd, data := .dict es n, slots := sl }) (hu : A.units < cLine) : RcAt A s (.str b u) (.ref l) false := fun prog w E Q h =>
  rc_eq_decline_or (k := false) (typeIs_str s b u) ⟨_, ho, rfl⟩ (by decide) F.sub_dict_str F.slot_str_eq F.slot_dict_eq_refl
    (fun _ hq => call_meets F.slot_str_eq (typeIs_str s b u) F.entry_str_eq (F.args_str_eq_2 _ _) (str_eq_declines_dict b u l (.type "dict") es n dd sl) ⟨ho, hq⟩)
    (fun _ hq => call_meets F.slot_dict_eq_refl ⟨_, ho, rfl⟩ F.entry_dict_eq (F.args_dict_eq_2 _ _) (dict_eq_declines_str l es n dd sl b u) ⟨ho, hq⟩)
    (fun _ hq => wpAny_of_eq (rfl : isSame (.str b u) (.ref l) = pure false) hq) (.inr hu) h
theorem EqAt.str_dict {l : Addr} {es : Array DictEntry} {n : Nat} {dd : Option Addr} {sl : Array (Option Value)} (b : Str) (u : Tok) (ho : s.heap.get? l = some { cls := .type "dict", dict := dd, data := .dict es n, slots := sl }) (hu : A.units < cLine) : EqAt A s (.str b u) (.ref l) false := fun prog w E Q h => by
  unfold eqBool
  refine wpAny_holding ?_
  refine wpAny_ite_split (fun hab => absurd (eq_of_beq hab) nofun) (fun _ => ?_)
  exact wpAny_bind (RcAt.str_dict b u ho hu prog w E _ (wpAny_truthy_bool h))
end
end PySem.SeqAt
namespace VL
open PySem L2
section
variable {X : Cx} {B : Bs} {W : WX} {a b c : Expr} {ma mb mc : M D} {p pos : Pos}
/-- a value of a known kind -/
def KnV (K : PySem.W.Frag) (H : Hp) (x : V) : Prop := flatV x = true ∨ ∃ q, x = .ref q ∧ ((∃ xs, SqL K H q xs) ∨ (∃ xs, SqT K H q xs) ∨ ∃ kvs, H q = some (.dK kvs))
def isSV (y : Str) : V → Bool
  | .str x => x == y
  | _ => false
theorem dict_at {pins : List (Addr × Obj)} {σ : L2.St} {H : Hp} {s : Shared} (I : Inv X pins σ H s) {q : Addr} {kvs : List (Key × V)} (h : H q = some (.dK kvs)) : ∃ es n, s.heap.get? q = some { cls := .type "dict", dict := none, data := .dict es n, slots := #[] } := by
  obtain ⟨_, _, vs, _, o, es, ep, e, ⟨h1, h2, h3⟩, hd, _⟩ := I.hok q _ h
  obtain ⟨c, d, dt, sl⟩ := o
  dsimp only at h1 h2 h3 hd
  subst h1 h2 h3 hd
  exact ⟨es, ep, e⟩
theorem str_eqAt {pins : List (Addr × Obj)} {σ : L2.St} {H : Hp} {s : Shared} (I : Inv X pins σ H s) {A : Around} (hu : A.units < cLine) {x : V} {v : Value} (rx : RelV x v) (k : KnV X.K H x) (y : Str) (t : Tok) : SeqAt.EqAt A s (.str y t) v (isSV y x) := by
  rcases k with f | ⟨q, rfl, h | h | h⟩
  · cases x with
    | non => cases rx; exact SeqAt.EqAt.str_none y t
    | bl b => cases rx; exact SeqAt.EqAt.str_bool y t b
    | int b => obtain ⟨t', rfl⟩ := rx; exact SeqAt.EqAt.str_int y t b t'
    | str b =>
      obtain ⟨t', rfl⟩ := rx
      have e : isSV y (.str b) = (y == b) := by
        show (b == y) = (y == b)
        rw [Bool.eq_iff_iff, beq_iff_eq, beq_iff_eq]
        exact eq_comm
      rw [e]
      exact SeqAt.EqAt.str_str y t b t'
    | _ => exact absurd (show false = true from f) Bool.false_ne_true
  · obtain ⟨xs, h⟩ := h
    cases rx
    obtain ⟨its, r, pl, _⟩ := I.list h
    exact SeqAt.EqAt.str_list y t pl.isList hu
  · obtain ⟨xs, h⟩ := h
    cases rx
    obtain ⟨its, r, pl, _⟩ := I.tuple h
    exact SeqAt.EqAt.str_tuple y t pl hu
  · obtain ⟨kvs, h⟩ := h
    cases rx
    obtain ⟨es, n, e⟩ := dict_at I h
    exact SeqAt.EqAt.str_dict y t e hu
def rEqS (K : PySem.W.Frag) : R2 := fun x y H Q => ∃ z, y = .str z ∧ KnV K H x ∧ Q (.bl (isSV z x)) H
theorem op_eqS (hu : X.A.units + 64 < cLine) : OpR X (compareOp .Eq) (rEqS X.K) := by
  intro pins s σ H x y v u Q I rx ry h
  obtain ⟨z, rfl, k, q⟩ := h
  obtain ⟨t, rfl⟩ := ry
  have hu' : X.A.units < cLine := Nat.lt_of_le_of_lt (Nat.le_add_right _ 64) hu
  have fin : EP X pins σ Q (.bool (isSV z x)) s := ⟨.bl _, H, I, rfl, q⟩
  rcases k with f | ⟨q', rfl, h | h | h⟩
  · cases x with
    | non => cases rx; exact SeqAt.RcAt.none_str z t X.prog X.w X.xe _ fin
    | bl b => cases rx; exact SeqAt.RcAt.bool_str b z t X.prog X.w X.xe _ fin
    | int b => obtain ⟨t', rfl⟩ := rx; exact SeqAt.RcAt.int_str b t' z t X.prog X.w X.xe _ fin
    | str b => obtain ⟨t', rfl⟩ := rx; exact SeqAt.RcAt.str_str b t' z t X.prog X.w X.xe _ fin
    | _ => exact absurd (show false = true from f) Bool.false_ne_true
  · obtain ⟨xs, h⟩ := h
    cases rx
    obtain ⟨its, r, pl, _⟩ := I.list h
    exact SeqAt.RcAt.list_str z t pl.isList hu' X.prog X.w X.xe _ fin
  · obtain ⟨xs, h⟩ := h
    cases rx
    obtain ⟨its, r, pl, _⟩ := I.tuple h
    exact SeqAt.RcAt.tuple_str z t pl hu' X.prog X.w X.xe _ fin
  · obtain ⟨kvs, h⟩ := h
    cases rx
    obtain ⟨es, n, e⟩ := dict_at I h
    exact SeqAt.RcAt.dict_str z t e hu' X.prog X.w X.xe _ fin
/-- a list or tuple of texts, asked for anything -/
def rInS (K : PySem.W.Frag) (neg : Bool) : R2 := fun x y H Q => ∃ (p : Addr) (xs : List Str), y = .ref p ∧ (SqL K H p (xs.map V.str) ∨ SqT K H p (xs.map V.str)) ∧ KnV K H x ∧ Q (.bl (xor neg (xs.any fun z => isSV z x))) H
def eqT (x : V) (u : Value) : Bool := match u with
  | .str z _ => isSV z x
  | _ => false
theorem vals_strs : ∀ {xs : List Str} {us : List Value}, Vals (xs.map V.str) us → (∀ u ∈ us, ∃ z t, u = .str z t) ∧ ∀ x, us.any (eqT x) = xs.any fun z => isSV z x
  | [], _, .nil => ⟨fun _ hu => (nomatch hu), fun _ => rfl⟩
  | z :: xs, u :: us, .cons r t => by
    obtain ⟨tk, rfl⟩ := r
    obtain ⟨h1, h2⟩ := vals_strs t
    refine ⟨fun u' hu => ?_, fun x => ?_⟩
    · rcases List.mem_cons.mp hu with rfl | hu
      · exact ⟨z, tk, rfl⟩
      · exact h1 u' hu
    · rw [List.any_cons, List.any_cons, h2 x]
      rfl
theorem op_inS (hu : X.A.units + 64 < cLine) : OpR X (compareOp .In) (rInS X.K false) := by
  intro pins s σ H x y v u Q I rx ry h
  obtain ⟨p, xs, rfl, hq, k, q⟩ := h
  cases ry
  have hu' : X.A.in1.units < cLine := Nat.lt_of_le_of_lt (show X.A.units + 1 ≤ X.A.units + 64 by omega) hu
  rcases hq with hq | hq
  · obtain ⟨its, r, pl, hz⟩ := I.list hq
    obtain ⟨h1, h2⟩ := vals_strs r
    refine SeqAt.in_listAt (eqT x) pl.isList (fun w hw => ?_) ⟨.bl _, H, I, rfl, ?_⟩
    · obtain ⟨z, t, rfl⟩ := h1 w (by simpa using hw)
      exact str_eqAt I (by first | exact hu' | exact Nat.lt_of_le_of_lt (by omega) hu') rx k z t
    · rw [show its.toArray.any (eqT x) = its.any (eqT x) by simp, h2]
      simpa using q
  · obtain ⟨its, r, pl, hz⟩ := I.tuple hq
    obtain ⟨h1, h2⟩ := vals_strs r
    refine SeqAt.in_tupleAt (eqT x) pl (fun w hw => ?_) ⟨.bl _, H, I, rfl, ?_⟩
    · obtain ⟨z, t, rfl⟩ := h1 w (by simpa using hw)
      exact str_eqAt I (by first | exact hu' | exact Nat.lt_of_le_of_lt (by omega) hu') rx k z t
    · rw [show its.toArray.any (eqT x) = its.any (eqT x) by simp, h2]
      simpa using q
theorem op_niS (hu : X.A.units + 64 < cLine) : OpR X (compareOp .NotIn) (rInS X.K true) := by
  intro pins s σ H x y v u Q I rx ry h
  obtain ⟨p, xs, rfl, hq, k, q⟩ := h
  cases ry
  have hu' : X.A.in1.units < cLine := Nat.lt_of_le_of_lt (show X.A.units + 1 ≤ X.A.units + 64 by omega) hu
  rcases hq with hq | hq
  · obtain ⟨its, r, pl, hz⟩ := I.list hq
    obtain ⟨h1, h2⟩ := vals_strs r
    refine SeqAt.notIn_listAt (eqT x) pl.isList (fun w hw => ?_) ⟨.bl _, H, I, rfl, ?_⟩
    · obtain ⟨z, t, rfl⟩ := h1 w (by simpa using hw)
      exact str_eqAt I (by first | exact hu' | exact Nat.lt_of_le_of_lt (by omega) hu') rx k z t
    · rw [show its.toArray.any (eqT x) = its.any (eqT x) by simp, h2]
      simpa using q
  · obtain ⟨its, r, pl, hz⟩ := I.tuple hq
    obtain ⟨h1, h2⟩ := vals_strs r
    refine SeqAt.notIn_tupleAt (eqT x) pl (fun w hw => ?_) ⟨.bl _, H, I, rfl, ?_⟩
    · obtain ⟨z, t, rfl⟩ := h1 w (by simpa using hw)
      exact str_eqAt I (by first | exact hu' | exact Nat.lt_of_le_of_lt (by omega) hu') rx k z t
    · rw [show its.toArray.any (eqT x) = its.any (eqT x) by simp, h2]
      simpa using q
/-- known kinds, over trees -/
def knD : D → Bool
  | .non => true
  | .bl _ => true
  | .int _ => true
  | .str _ => true
  | .tup _ => true
  | .lst _ => true
  | .dct _ => true
  | _ => false
def isSt (y : Str) : D → Bool
  | .str x => x == y
  | _ => false
theorem kn_V {K : PySem.W.Frag} {g : Gh} {H : Hp} {d : D} {v : V} (hs : Same g.G H) (h : DV K g d v) (k : knD d = true) : KnV K H v ∧ ∀ y, isSV y v = isSt y d := by
  cases d with
  | non => rw [h.of_n]; exact ⟨.inl rfl, fun _ => rfl⟩
  | bl b => rw [h.of_b]; exact ⟨.inl rfl, fun _ => rfl⟩
  | int i => rw [h.of_i]; exact ⟨.inl rfl, fun _ => rfl⟩
  | str x => rw [h.of_s]; exact ⟨.inl rfl, fun _ => rfl⟩
  | tup ds =>
    obtain ⟨p, vs, rfl, e1, s1⟩ := h.of_t
    exact ⟨.inr ⟨p, rfl, .inr (.inl ⟨vs, sameT hs e1⟩)⟩, fun _ => rfl⟩
  | lst ds =>
    obtain ⟨p, vs, rfl, e1, s1⟩ := h.of_l
    exact ⟨.inr ⟨p, rfl, .inl ⟨vs, SqL.of (hs _ _ e1)⟩⟩, fun _ => rfl⟩
  | dct kvs =>
    simp only [DV] at h
    obtain ⟨p, ws, rfl, e1, _⟩ := h
    exact ⟨.inr ⟨p, rfl, .inr (.inr ⟨ws, hs _ _ e1⟩)⟩, fun _ => rfl⟩
  | _ => cases k
def dEqT (d e : D) (Q : D → Prop) : Prop := ∃ y, e = .str y ∧ knD d = true ∧ Q (.bl (isSt y d))
theorem opv_eqT {K : PySem.W.Frag} : OpV K (rEqS K) dEqT := by
  intro g H n d1 d2 x y Qd Qv ok h1 h2 hf hk
  obtain ⟨z, rfl, k, q⟩ := hf
  obtain ⟨k1, k2⟩ := kn_V ok.sub h1 k
  refine ⟨z, h2.of_s, k1, ?_⟩
  rw [k2]
  exact hk g H _ _ (Ext.refl _ _) ok DV.b q
/-- == beside a text -/
def eqTP (d e : D) (Q : D → Prop) : Prop := match e with
  | .str y => knD d = true ∧ Q (.bl (isSt y d))
  | _ => False
theorem eqT_or {d e : D} {Q : D → Prop} (h : eqTP d e Q) : dEqT d e Q := by
  unfold eqTP at h
  split at h
  · exact ⟨_, rfl, h⟩
  · exact h.elim
theorem OpV.imp {K : PySem.W.Frag} {r : R2} {f h : D → D → (D → Prop) → Prop} (hr : OpV K r f) (hh : ∀ d e Q, h d e Q → f d e Q) : OpV K r h := fun g H n d1 d2 x y Qd Qv ok h1 h2 hf hk => hr g H n d1 d2 x y Qd Qv ok h1 h2 (hh _ _ _ hf) hk
theorem pt_eqT (hu : X.A.units + 64 < cLine) (ha : PM X B W a ma) (hb : PM X B W b mb) : PMT X B W (.Compare a [.Eq] [b] pos) (mTst (mOp eqTP ma mb)) := pt_cmpV (op_eqS hu) (opv_eqT.imp fun _ _ _ h => eqT_or h) ha hb (nomark _)
def allS : List D → Option (List Str)
  | [] => some []
  | .str x :: r => (allS r).map (x :: ·)
  | _ :: _ => none
theorem allS_V {K : PySem.W.Frag} {g : Gh} : ∀ {ds : List D} {xs : List Str} {vs : List V}, allS ds = some xs → DVs K g ds vs → vs = xs.map V.str
  | [], xs, vs, e, h => by
    cases e
    rw [h.of_nil]
    rfl
  | d :: r, xs, vs, e, h => by
    obtain ⟨u, w, rfl, h1, h2⟩ := h.of_cons
    cases d <;> first | (simp [allS] at e; done) | skip
    rename_i x
    simp only [allS, Option.map_eq_some_iff] at e
    obtain ⟨ys, e1, rfl⟩ := e
    rw [h1.of_s, allS_V e1 h2]
    rfl
/-- in a tuple or list of texts -/
def inT (neg : Bool) (d e : D) (Q : D → Prop) : Prop := match e with
  | .tup ds => ∃ xs, allS ds = some xs ∧ knD d = true ∧ Q (.bl (xor neg (xs.any fun z => isSt z d)))
  | .lst ds => ∃ xs, allS ds = some xs ∧ knD d = true ∧ Q (.bl (xor neg (xs.any fun z => isSt z d)))
  | _ => False
theorem opv_inT {K : PySem.W.Frag} {neg : Bool} : OpV K (rInS K neg) (inT neg) := by
  intro g H n d1 d2 x y Qd Qv ok h1 h2 hf hk
  unfold inT at hf
  split at hf
  · obtain ⟨xs, e, k, q⟩ := hf
    obtain ⟨k1, k2⟩ := kn_V ok.sub h1 k
    obtain ⟨p, vs, rfl, e1, s1⟩ := h2.of_t
    rw [allS_V e s1] at e1
    refine ⟨p, xs, rfl, .inr (sameT ok.sub e1), k1, ?_⟩
    rw [show (fun z => isSV z x) = fun z => isSt z d1 from funext k2]
    exact hk g H _ _ (Ext.refl _ _) ok DV.b q
  · obtain ⟨xs, e, k, q⟩ := hf
    obtain ⟨k1, k2⟩ := kn_V ok.sub h1 k
    obtain ⟨p, vs, rfl, e1, s1⟩ := h2.of_l
    rw [allS_V e s1] at e1
    refine ⟨p, xs, rfl, .inl (SqL.of (ok.sub _ _ e1)), k1, ?_⟩
    rw [show (fun z => isSV z x) = fun z => isSt z d1 from funext k2]
    exact hk g H _ _ (Ext.refl _ _) ok DV.b q
  · exact hf.elim
theorem pm_inT (hu : X.A.units + 64 < cLine) (ha : PM X B W a ma) (hb : PM X B W b mb) (hm : behindInMarks .In b = false := by rfl) : PM X B W (.Compare a [.In] [b] pos) (mOp (inT false) ma mb) := pm_cmp (op_inS hu) opv_inT ha hb hm
theorem pt_inT (hu : X.A.units + 64 < cLine) (ha : PM X B W a ma) (hb : PM X B W b mb) (hm : behindInMarks .In b = false := by rfl) : PMT X B W (.Compare a [.In] [b] pos) (mTst (mOp (inT false) ma mb)) := pt_cmpV (op_inS hu) opv_inT ha hb hm
theorem pt_niT (hu : X.A.units + 64 < cLine) (ha : PM X B W a ma) (hb : PM X B W b mb) (hm : behindInMarks .NotIn b = false := by rfl) : PMT X B W (.Compare a [.NotIn] [b] pos) (mTst (mOp (inT true) ma mb)) := pt_cmpV (op_niS hu) opv_inT ha hb hm
end
end VL
namespace VL
open PySem L2
end VL
namespace ZN
open PySem PySem.Spec
/-- an iterator, its list, what is in it -/
abbrev P3 := Addr × Addr × Array Value
def rf (p : P3) : Value := .ref p.1
def fpO (z TI TO : Addr) (ps : List P3) : List Addr := z :: TI :: TO :: ps.map (·.1)
structure Ap (z TI TO : Addr) (ps : List P3) : Prop where
  nd : (fpO z TI TO ps).Nodup
  ls : ∀ p ∈ ps, p.2.1 ∉ fpO z TI TO ps
section
variable {z TI TO : Addr} {ps : List P3} (D : Ap z TI TO ps)
include D
theorem Ap.it {p : P3} (hp : p ∈ ps) : p.1 ≠ z ∧ p.1 ≠ TI ∧ p.1 ≠ TO := by
  have h := D.nd
  simp only [fpO, List.nodup_cons, List.mem_cons, not_or] at h
  have hm : p.1 ∈ ps.map (·.1) := List.mem_map_of_mem hp
  exact ⟨fun e => h.1.2.2 (e ▸ hm), fun e => h.2.1.2 (e ▸ hm), fun e => h.2.2.1 (e ▸ hm)⟩
theorem Ap.li {p : P3} (hp : p ∈ ps) : p.2.1 ≠ z ∧ p.2.1 ≠ TI ∧ p.2.1 ≠ TO ∧ ∀ q ∈ ps, p.2.1 ≠ q.1 := by
  have h := D.ls p hp
  simp only [fpO, List.mem_cons, not_or] at h
  exact ⟨h.1, h.2.1, h.2.2.1, fun q hq e => h.2.2.2 (e ▸ List.mem_map_of_mem hq)⟩
theorem Ap.its {dn rest : List P3} {p : P3} (e : dn ++ p :: rest = ps) : (∀ q ∈ dn, q.1 ≠ p.1) ∧ ∀ q ∈ rest, q.1 ≠ p.1 := by
  have h := D.nd
  have h4 : (ps.map (·.1)).Nodup := by
    simp only [fpO, List.nodup_cons] at h
    exact h.2.2.2
  rw [← e, List.map_append, List.map_cons, List.nodup_append] at h4
  obtain ⟨_, h5, h6⟩ := h4
  refine ⟨fun q hq e => h6 q.1 (List.mem_map_of_mem hq) p.1 (by simp) e, fun q hq e => ?_⟩
  rw [List.nodup_cons] at h5
  exact h5.1 (e ▸ List.mem_map_of_mem hq)
end
/-- the iterators so far -/
structure At (ps : List P3) (i : Nat) (dn rest : List P3) (fp : List Addr) (h0 h : Heap) : Prop where
  sz : h.objs.size = h0.objs.size
  kp : ∀ c o, c ∉ fp → h0.get? c = some o → h.get? c = some o
  dn : ∀ p ∈ dn, h.IsListIter p.1 p.2.1 (i + 1)
  rs : ∀ p ∈ rest, h.IsListIter p.1 p.2.1 i
  ls : ∀ p ∈ ps, h.IsList p.2.1 p.2.2
section
variable {prog : Program} {w : World} {A : Around} {E : Value → Shared → Prop} {s : Shared} {z TI TO : Addr} {ps : List P3}
theorem At.next {i : Nat} {dn rest : List P3} {p : P3} {h0 h h' : Heap} (D : Ap z TI TO ps) (a : At ps i dn (p :: rest) (fpO z TI TO ps) h0 h) (e : dn ++ p :: rest = ps) (hi : h'.IsListIter p.1 p.2.1 (i + 1)) (sb : Heap.SameBut p.1 h h') :
    At ps i (dn ++ [p]) rest (fpO z TI TO ps) h0 h' := by
  have hp : p ∈ ps := by rw [← e]; simp
  obtain ⟨n1, n2⟩ := D.its e
  have up : ∀ c o, c ≠ p.1 → h.get? c = some o → h'.get? c = some o := fun c o hc q => (sb.2 c hc).trans q
  refine ⟨sb.1.trans a.sz, fun c o hc q => up c o (fun q' => hc (by rw [q']; exact List.mem_cons_of_mem _ (List.mem_cons_of_mem _ (List.mem_cons_of_mem _ (List.mem_map_of_mem hp))))) (a.kp c o hc q), fun q hq => ?_, fun q hq => ?_, fun q hq => ?_⟩
  · rcases List.mem_append.mp hq with hq | hq
    · exact (a.dn q hq).at fun o x => up _ o (n1 q hq) x
    · rw [List.mem_singleton.mp hq]
      exact hi
  · exact (a.rs q (by simp [hq])).at fun o x => up _ o (n2 q hq) x
  · exact (a.ls q hq).at fun o x => up _ o ((D.li hq).2.2.2 p hp) x
end
end ZN
namespace ZN
open PySem PySem.Spec
section
variable {prog : Program} {w : World} {A : Around} {E : Value → Shared → Prop} {s : Shared} {z TI TO : Addr} {ps : List P3}
theorem At.init {i : Nat} {h : Heap} (D : Ap z TI TO ps) (hs : Heap.SameBut z s.heap h) (hit : ∀ p ∈ ps, s.heap.IsListIter p.1 p.2.1 i) (hls : ∀ p ∈ ps, s.heap.IsList p.2.1 p.2.2) : At ps i [] ps (fpO z TI TO ps) s.heap h :=
  ⟨hs.1, fun c o hc q => (hs.2 c fun q' => hc (by rw [q']; simp [fpO])).trans q, fun _ z => (nomatch z), fun p hp => (hit p hp).at fun o q => (hs.2 _ (D.it hp).1).trans q, fun p hp => (hls p hp).at fun o q => (hs.2 _ (D.li hp).1).trans q⟩
end
end ZN
namespace ZN
open PySem PySem.Spec
end ZN
namespace ZN
open PySem PySem.Spec
end ZN
namespace ZN
open PySem PySem.Spec PyProof.Rows L2
abbrev Q2 := Addr × Addr
def fpQ (z TI TO : Addr) (qs : List Q2) : List Addr := z :: TI :: TO :: qs.map (·.1)
def mk3 (f : Q2 → Array Value) (qs : List Q2) : List P3 := qs.map fun q => (q.1, q.2, f q)
theorem fp_mk {z TI TO : Addr} {qs : List Q2} {f : Q2 → Array Value} : fpO z TI TO (mk3 f qs) = fpQ z TI TO qs := by
  unfold fpO fpQ mk3
  rw [List.map_map]
  rfl
structure Aq (z TI TO : Addr) (qs : List Q2) : Prop where
  nd : (fpQ z TI TO qs).Nodup
  ls : ∀ q ∈ qs, q.2 ∉ fpQ z TI TO qs
theorem Aq.ap {z TI TO : Addr} {qs : List Q2} (D : Aq z TI TO qs) (f : Q2 → Array Value) : Ap z TI TO (mk3 f qs) := by
  refine ⟨by rw [fp_mk]; exact D.nd, fun p hp => ?_⟩
  rw [fp_mk]
  obtain ⟨q, hq, rfl⟩ := List.mem_map.mp hp
  exact D.ls q hq
end ZN
namespace VL
open PySem PySem.Spec PyProof.Rows L2 ZN
end VL
namespace VL
open PySem L2
def CoV (K : PySem.W.Frag) (g : Gh) : Cell → HO → Prop
  | .l ds, .lst vs => DVs K g ds vs
  | .k ks, .dK ws => DVk K g ks ws
  | .o C fs, .ins c _ ws => c = He.ga K C ∧ DVf K g fs ws
  | _, _ => False
theorem CoV.mono {K : PySem.W.Frag} {g g' : Gh} (x : Gx g g') {c : Cell} {o : HO} (h : CoV K g c o) : CoV K g' c o := by
  cases c <;> cases o <;> first | exact h.elim | skip
  · exact DVs.mono x h
  · exact DVk.mono x h
  · exact ⟨h.1, DVf.mono x h.2⟩
theorem CoV.at_ {g : Gh} {H : Hp} {c : Cell} {o : HO} {a : Addr} (h : CoV g.K g c o) (e : H a = some o) : CellAt g H c a true := by
  cases c <;> cases o <;> first | exact h.elim | skip
  · exact ⟨rfl, _, e, h⟩
  · exact ⟨rfl, _, e, h⟩
  · obtain ⟨rfl, h⟩ := h
    exact ⟨rfl, _, _, e, h⟩
theorem CoV.nt {K : PySem.W.Frag} {g : Gh} {c : Cell} {o : HO} (h : CoV K g c o) : NT o ∧ ∀ b z, o ≠ LamX.CodeO b z := by
  cases c <;> cases o <;> first | exact h.elim | exact ⟨fun _ z => (nomatch z), fun _ _ z => (nomatch z)⟩
theorem CellAt.co {g : Gh} {H : Hp} {c : Cell} {a : Addr} {f : Bool} (h : CellAt g H c a f) (hc : c ≠ .x) : f = true ∧ ∃ o, H a = some o ∧ CoV g.K g c o := by
  cases c with
  | x => exact absurd rfl hc
  | l ds => obtain ⟨h1, vs, h2, h3⟩ := h; exact ⟨h1, _, h2, h3⟩
  | k ks => obtain ⟨h1, vs, h2, h3⟩ := h; exact ⟨h1, _, h2, h3⟩
  | o C fs => obtain ⟨h1, dx, vs, h2, h3⟩ := h; exact ⟨h1, _, h2, rfl, h3⟩
def Gh.addL (g : Gh) (p : Addr) : Gh := ⟨g.G, g.r, g.T, g.L ++ [(p, true)], g.K⟩
theorem Gx.addL {g : Gh} {p : Addr} : Gx g (g.addL p) := ⟨Same.refl _, fun z h => ⟨z, h, rfl⟩, fun i a f h => ⟨f, by
  show (g.L ++ [(p, true)])[i]? = _
  rw [List.getElem?_append_left (List.getElem?_eq_some_iff.mp h).1]
  exact h⟩⟩
theorem addL_lz {g : Gh} {p a : Addr} (h : lz (g.addL p) a) : lz g a ∨ a = p := by
  obtain ⟨i, hi⟩ := h
  have hi' : (g.L ++ [(p, true)])[i]? = some (a, true) := hi
  by_cases q : i < g.L.length
  · rw [List.getElem?_append_left q] at hi'
    exact .inl ⟨i, hi'⟩
  · rw [List.getElem?_append_right (by omega)] at hi'
    cases e : i - g.L.length with
    | zero => rw [e] at hi'; simp at hi'; exact .inr hi'.symm
    | succ n => rw [e] at hi'; simp at hi'
theorem Ext.addL {g : Gh} {H : Hp} {p : Addr} {o : HO} (h : H p = none) : Ext g H (g.addL p) (upd H p o) where
  sG := Same.refl _
  keep := fun a u e _ _ => by rw [upd_ne (ne_of_none e h)]; exact e
  tb := ⟨rfl, tab_new h _⟩
  out := fun a u e n _ => n
  th := fun a u e => ⟨u, by rw [upd_ne (ne_of_none e h)]; exact e⟩
  am := fun z e => ⟨z, e, rfl⟩
  zn := fun a z => by
    rcases z with z | z
    · exact .inl (.inl z)
    · rcases addL_lz z with z | z
      · exact .inl (.inr z)
      · rw [z]; exact .inr h
  lc := ⟨Gx.addL.2.2, rfl⟩
theorem GhOk.addL {g : Gh} {H : Hp} {n : Ms} {p : Addr} {o : HO} {c : Cell} (x : GhOk g H n) (h : H p = none) (hc : CoV g.K g c o) : GhOk (g.addL p) (upd H p o) ⟨n.n, n.h ++ [c]⟩ where
  sub := (x.new h).sub
  nt := x.nt
  dr := (x.new h).dr
  off := fun a z => by
    rcases z with z | z
    · exact x.off a (.inl z)
    · rcases addL_lz z with z | z
      · exact x.off a (.inr z)
      · rw [z]; exact x.sub.free h
  mem := {
    len := by
      show (g.L ++ [(p, true)]).length = (n.h ++ [c]).length
      rw [List.length_append, List.length_append, x.mem.len]
      rfl
    at_ := fun i c' a f h1 h2 => by
      have h2' : (g.L ++ [(p, true)])[i]? = some (a, f) := h2
      have hl := x.mem.len
      by_cases q : i < g.L.length
      · rw [List.getElem?_append_left q] at h2'
        rw [List.getElem?_append_left (by omega)] at h1
        exact (x.mem.at_ i c' a f h1 h2').keep Gx.addL rfl fun u _ e _ => by rw [upd_ne (ne_of_none e h)]; exact e
      · rw [List.getElem?_append_right (by omega)] at h2'
        rw [List.getElem?_append_right (by omega)] at h1
        cases e : i - g.L.length with
        | zero =>
          rw [e] at h2'
          rw [show i - n.h.length = 0 by omega] at h1
          simp at h2' h1
          obtain ⟨rfl, rfl⟩ := h2'
          subst h1
          exact (hc.mono Gx.addL).at_ (g := g.addL p) upd_same
        | succ m => rw [e] at h2'; simp at h2'
    inj := fun i j a h1 h2 => by
      have h1' : (g.L ++ [(p, true)])[i]? = some (a, true) := h1
      have h2' : (g.L ++ [(p, true)])[j]? = some (a, true) := h2
      have np : ∀ i : Nat, g.L[i]? = some (p, true) → False := fun i hi => by
        obtain ⟨o', ho, _⟩ := x.mem.there ⟨i, hi⟩
        rw [h] at ho
        cases ho
      have one : ∀ {i : Nat} {a : Addr}, (g.L ++ [(p, true)])[i]? = some (a, true) → (i < g.L.length ∧ g.L[i]? = some (a, true)) ∨ (i = g.L.length ∧ a = p) := fun {i a} hh => by
        by_cases q : i < g.L.length
        · rw [List.getElem?_append_left q] at hh
          exact .inl ⟨q, hh⟩
        · rw [List.getElem?_append_right (by omega)] at hh
          cases e : i - g.L.length with
          | zero => rw [e] at hh; simp at hh; exact .inr ⟨by omega, hh.symm⟩
          | succ m => rw [e] at hh; simp at hh
      rcases one h1' with ⟨q1, e1⟩ | ⟨q1, e1⟩ <;> rcases one h2' with ⟨q2, e2⟩ | ⟨q2, e2⟩
      · exact x.mem.inj i j a e1 e2
      · rw [e2] at e1; exact (np i e1).elim
      · rw [e1] at e2; exact (np j e2).elim
      · omega
    dz := fun a l z e q => by
      rcases addL_lz l with l | l
      · exact x.mem.dz a l z e q
      · obtain ⟨o', ho⟩ := (x.dr z e).1.at (a := a) q
        rw [l, h] at ho
        cases ho }
theorem DV.addL {K : PySem.W.Frag} {g : Gh} {p : Addr} {n : Nat} (h : g.L.length = n) : DV K (g.addL p) (.loc n) (.ref p) := by
  simp only [DV]
  refine ⟨p, true, ?_, rfl⟩
  show (g.L ++ [(p, true)])[n]? = _
  rw [List.getElem?_append_right (by omega), show n - g.L.length = 0 by omega]
  rfl
section
variable {K : PySem.W.Frag} {B : Bs} {g g' : Gh} {s : VS} {σ : L2.St} {H H' : Hp}
/-- a new object that may change -/
theorem Rel.addL {p : Addr} {o : HO} {c : Cell} (R : Rel K B g s σ H) (h : H p = none) (hc : CoV K g c o) : Rel K B (g.addL p) ⟨s.e, ⟨s.n.n, s.n.h ++ [c]⟩⟩ σ (upd H p o) ∧ DV K (g.addL p) (.loc s.n.h.length) (.ref p) := by
  have hk := R.tb.k
  refine ⟨R.step (Ext.addL h) (R.gh.addL h (by rw [hk]; exact hc)), DV.addL R.gh.mem.len⟩
theorem DV.of_loc {i : Nat} {v : V} (h : DV K g (.loc i) v) : ∃ a f, g.L[i]? = some (a, f) ∧ v = .ref a := by simpa only [DV] using h
/-- what stands there -/
theorem Rel.loc {i : Nat} {c : Cell} {v : V} (R : Rel K B g s σ H) (h : s.n.h[i]? = some c) (hc : c ≠ .x) (dv : DV K g (.loc i) v) : ∃ a o, v = .ref a ∧ g.L[i]? = some (a, true) ∧ H a = some o ∧ CoV K g c o := by
  obtain ⟨a, f, h1, h2⟩ := dv.of_loc
  obtain ⟨rfl, o, h3, h4⟩ := (R.gh.mem.at_ i c a f h h1).co hc
  rw [R.tb.k] at h4
  exact ⟨a, o, h2, h1, h3, h4⟩
/-- it changes -/
theorem Rel.chgL {i : Nat} {a : Addr} {c' : Cell} {o' : HO} (R : Rel K B g s σ H) (ha : g.L[i]? = some (a, true)) (hc : CoV K g c' o') : Rel K B g ⟨s.e, ⟨s.n.n, s.n.h.set i c'⟩⟩ σ (upd H a o') := by
  have la : lz g a := ⟨i, ha⟩
  have za : zone g a := .inr la
  obtain ⟨o, ho, n1, n2⟩ := R.gh.mem.there la
  have hK := R.tb.k
  have hil : i < g.L.length := (List.getElem?_eq_some_iff.mp ha).1
  have notB : ∀ b u, B.H b = some u → ¬ zone B.g b → b ≠ a := fun b u e nz q => by
    rcases R.ext.zn a za with y | y
    · exact nz (q ▸ y)
    · rw [q, y] at e; cases e
  refine ⟨⟨fun b u e => ?_, R.gh.nt, fun z e => ?_, R.gh.off, ⟨by rw [List.length_set]; exact R.gh.mem.len, fun j c b f h1 h2 => ?_, R.gh.mem.inj, R.gh.mem.dz⟩⟩, ⟨R.ext.sG, fun b u e nz nt => ?_, ⟨R.ext.tb.1, fun t => tab_chg ho n1 n2 _ (R.ext.tb.2 t)⟩, R.ext.out, fun b u e => ?_, R.ext.am, R.ext.zn, R.ext.lc⟩, R.len, fun j sl u h1 h2 => ?_, R.ap, R.me, fun p e => ?_, ⟨R.tb.t, R.tb.k, tab_chg ho n1 n2 _ R.tb.s⟩⟩
  · rw [upd_ne fun q => by rw [q, R.gh.off a za] at e; cases e]
    exact R.gh.sub b u e
  · obtain ⟨d, hn⟩ := R.gh.dr z e
    have nd := R.gh.mem.dz a la z e
    exact ⟨⟨by rw [upd_ne fun q => nd (.inl q.symm)]; exact d.m, by rw [upd_ne fun q => nd (.inr (.inl q.symm))]; exact d.c, by rw [upd_ne fun q => nd (.inr (.inr q.symm))]; exact d.l, d.ne, d.bits, d.clen, d.pos, d.llen⟩, hn⟩
  · have hl := R.gh.mem.len
    by_cases q : i = j
    · subst q
      have h1' : (s.n.h.set i c')[i]? = some c := h1
      rw [List.getElem?_set_self (by omega)] at h1'
      cases h1'
      rw [ha] at h2
      cases h2
      exact CoV.at_ (by rw [hK]; exact hc) upd_same
    · have h1' : (s.n.h.set i c')[j]? = some c := h1
      rw [List.getElem?_set_ne q] at h1'
      refine (R.gh.mem.at_ j c b f h1' h2).keep (Gx.refl _) rfl fun u hf e _ => ?_
      rw [upd_ne fun z => q (R.gh.mem.inj i j a ha (by rw [h2, z, hf]))]
      exact e
  · rw [upd_ne (notB b u e nz)]
    exact R.ext.keep b u e nz nt
  · obtain ⟨u', e'⟩ := R.ext.th b u e
    by_cases q : b = a
    · exact ⟨o', by rw [q, upd_same]⟩
    · exact ⟨u', by rw [upd_ne q]; exact e'⟩
  · have z := R.sl j sl u h1 h2
    cases sl with
    | un => trivial
    | dat d => exact z
    | own c =>
      obtain ⟨b, e2, ws, j1, j2, j3, j4, j5⟩ := z
      exact ⟨b, e2, ws, j1, j2, j3, (upd_ne fun (q : b = a) => j3 (q ▸ za)).trans j4, j5⟩
  · obtain ⟨ws, k1, k2, k3, k4⟩ := R.px p e
    exact ⟨ws, (upd_ne fun (q : p.1 = a) => k4 (q ▸ za)).trans k1, k2, k3, k4⟩
/-- a list that may change becomes data -/
theorem Rel.frzL {i : Nat} {ds : List D} {v : V} (R : Rel K B g s σ H) (h : s.n.h[i]? = some (.l ds)) (dv : DV K g (.loc i) v) : ∃ g', Gx g g' ∧ DV K g' (.lst ds) v ∧ Rel K B g' ⟨s.e, ⟨s.n.n, s.n.h.set i .x⟩⟩ σ H := by
  obtain ⟨a, o, rfl, ha, ho, co⟩ := R.loc h (by simp) dv
  cases o <;> first | exact co.elim | skip
  rename_i vs
  have co : DVs K g ds vs := co
  have la : lz g a := ⟨i, ha⟩
  have za : zone g a := .inr la
  have ga : g.G a = none := R.gh.off a za
  have hil : i < g.L.length := (List.getElem?_eq_some_iff.mp ha).1
  have hl := R.gh.mem.len
  let g' : Gh := ⟨upd g.G a (.lst vs), g.r, g.T, g.L.set i (a, false), g.K⟩
  have lx : Lx g g' := fun j b f e => by
    show ∃ f', (g.L.set i (a, false))[j]? = some (b, f')
    by_cases q : i = j
    · subst q
      rw [ha] at e
      cases e
      exact ⟨false, List.getElem?_set_self hil⟩
    · exact ⟨f, by rw [List.getElem?_set_ne q]; exact e⟩
  have gx : Gx g g' := ⟨fun b u e => by
    show upd g.G a _ b = some u
    rw [upd_ne (ne_of_none e ga)]
    exact e, fun z e => ⟨z, e, rfl⟩, lx⟩
  have lz' : ∀ b, lz g' b → lz g b ∧ b ≠ a := fun b ⟨j, hj⟩ => by
    have hj' : (g.L.set i (a, false))[j]? = some (b, true) := hj
    by_cases q : i = j
    · subst q
      rw [List.getElem?_set_self hil] at hj'
      cases hj'
    · rw [List.getElem?_set_ne q] at hj'
      exact ⟨⟨j, hj'⟩, fun z => q (R.gh.mem.inj i j a ha (by rw [hj', z]))⟩
  have zg : ∀ b, zone g' b → zone g b ∧ b ≠ a := fun b z => by
    rcases z with ⟨z, e, q⟩ | z
    · exact ⟨.inl ⟨z, e, q⟩, fun q' => R.gh.mem.dz a la z e (q' ▸ q)⟩
    · exact ⟨.inr (lz' b z).1, (lz' b z).2⟩
  have ex : Ext g H g' H := ⟨gx.1, fun _ _ e _ _ => e, ⟨rfl, fun t => t⟩, fun b u e n nz => by
    show upd g.G a _ b = none
    rw [upd_ne fun (q : b = a) => nz (q ▸ za)]
    exact n, fun b u e => ⟨u, e⟩, gx.2.1, fun b z => .inl (zg b z).1, lx, rfl⟩
  have ok : GhOk g' H ⟨s.n.n, s.n.h.set i .x⟩ := ⟨fun b u e => by
    have e' : upd g.G a (.lst vs) b = some u := e
    by_cases q : b = a
    · rw [q, upd_same] at e'
      cases e'
      rw [q]
      exact ho
    · rw [upd_ne q] at e'
      exact R.gh.sub b u e', fun b u e => by
    have e' : upd g.G a (.lst vs) b = some u := e
    by_cases q : b = a
    · rw [q, upd_same] at e'
      cases e'
      exact fun _ z => (nomatch z)
    · rw [upd_ne q] at e'
      exact R.gh.nt b u e', R.gh.dr, fun b z => by
    show upd g.G a _ b = none
    rw [upd_ne (zg b z).2]
    exact R.gh.off b (zg b z).1, ⟨by
      show (g.L.set i (a, false)).length = (s.n.h.set i .x).length
      rw [List.length_set, List.length_set]
      exact hl, fun j c b f h1 h2 => by
      have h1' : (s.n.h.set i .x)[j]? = some c := h1
      have h2' : (g.L.set i (a, false))[j]? = some (b, f) := h2
      by_cases q : i = j
      · subst q
        rw [List.getElem?_set_self hil] at h2'
        rw [List.getElem?_set_self (by omega)] at h1'
        cases h1'
        cases h2'
        exact rfl
      · rw [List.getElem?_set_ne q] at h1' h2'
        exact (R.gh.mem.at_ j c b f h1' h2').keep gx rfl fun u _ e _ => e, fun j k b h1 h2 => by
      have h1' : (g.L.set i (a, false))[j]? = some (b, true) := h1
      have h2' : (g.L.set i (a, false))[k]? = some (b, true) := h2
      have q1 : i ≠ j := fun q => by subst q; rw [List.getElem?_set_self hil] at h1'; cases h1'
      have q2 : i ≠ k := fun q => by subst q; rw [List.getElem?_set_self hil] at h2'; cases h2'
      rw [List.getElem?_set_ne q1] at h1'
      rw [List.getElem?_set_ne q2] at h2'
      exact R.gh.mem.inj j k b h1' h2', fun b l z e => R.gh.mem.dz b (lz' b l).1 z e⟩⟩
  exact ⟨g', gx, DV.l (show upd g.G a _ a = _ from upd_same) (co.mono gx), R.step ex ok⟩
end
end VL
namespace VL
open PySem PySem.Spec PyProof.Rows L2
section
variable {X : Cx} {B : Bs} {W : WX} {a b c : Expr} {es : List Expr} {ma mb mc : M D} {mes : M (List D)} {ta tb : M Bool} {p pos : Pos} {st : Stmt} {sts : List Stmt} {m k : MS}
/-- [..], a list that may change -/
def mLstL (m : M (List D)) : M D := fun s Q E => m s (fun ds s' => ds.length ≤ sizeLine ∧ Q (.loc s'.n.h.length) ⟨s'.e, ⟨s'.n.n, s'.n.h ++ [.l ds]⟩⟩) E
theorem pm_lstL (h : PMA X B W es mes) : PM X B W (.List es pos) (mLstL mes) := by
  refine impE (pe_lst h) fun σ H Q h => ?_
  obtain ⟨g, s, Qd, E, R, hm, hk, hx⟩ := h
  refine ⟨g, s, _, E, R, hm, fun g1 s1 H1 vs ds x1 R1 dv q1 => ⟨by rw [dv.length]; exact q1.1, fun q hq => ?_⟩, hx⟩
  obtain ⟨R2, dl⟩ := R1.addL (c := .l ds) (o := .lst vs) hq dv
  exact hk _ _ _ _ _ (x1.trans Gx.addL) R2 dl q1.2
/-- o.append(a), a list that may change -/
def mAppM (mo m : M D) : MS := fun s K => mo s (fun o s1 => match o with
  | .loc i => (∃ ds, s1.n.h[i]? = some (.l ds)) ∧ m s1 (fun d s2 => ∃ ds, s2.n.h[i]? = some (.l ds) ∧ ds.length < sizeLine ∧ K.nx ⟨s2.e, ⟨s2.n.n, s2.n.h.set i (.l (ds ++ [d]))⟩⟩) K.ex
  | _ => False) K.ex
theorem pms_appM {apos cpos : Pos} (ho : PM X B W b mb) (ha : PM X B W a ma) (hbase : attributeBase b "append" X.env (eval b X.env) = eval b X.env := by rfl)
    (hfew : ((backTo cpos (starEach [a] X.env)).all (fun x => !x.1) && (backToKw cpos (keywordEach [] X.env)).all (fun x => x.1.isSome)
      && decide ([a].length + ([] : List Keyword).length + (if ([] : List Keyword).isEmpty then 0 else 1) < 30)) = true := by rfl)
    (hline : (apos.endLine == cpos.line) = true := by rfl) (hs : starEach [a] X.env = (false, eval a X.env) :: starEach [] X.env := by rfl) (hw : swapsWith (.Call (.Attribute b "append" apos) [a] [] cpos) none pos.line X.env = pure false := by rfl) :
    PMS X B W (.Expr (.Call (.Attribute b "append" apos) [a] [] cpos) pos) (mAppM mb ma) := by
  refine impS (ps_expr (pe_bm PySem.F.plainAttrs_list PySem.F.slot_list_append PySem.F.type_list_append mt_append ho (pa_cons ha pa_nil hs) hbase hfew hline hs rfl) hw) fun D σ H ⟨g, s, K, R, hm, ok⟩ => ?_
  refine ⟨g, s, _, K.ex, R, hm, fun g1 s1 H1 v1 d1 x1 R1 dv1 q1 => ?_, ok.x σ⟩
  cases d1 <;> first | exact (show False from q1).elim | skip
  rename_i i
  obtain ⟨⟨ds0, h0⟩, q1⟩ := q1
  obtain ⟨q', o, rfl, ha, ho, co⟩ := R1.loc h0 (by simp) dv1
  cases o <;> first | exact co.elim | skip
  refine .inl ⟨rfl, _, SqL.of ho⟩ |> fun z => ⟨z, ?_⟩
  refine ⟨g1, s1, _, K.ex, R1, q1, fun g2 s2 H2 v d x2 R2 dv q2 => ?_, (ok.mono x1).x σ⟩
  obtain ⟨ds, h1, hl, q2⟩ := q2
  obtain ⟨q2', o2, eq, ha2, ho2, co2⟩ := R2.loc h1 (by simp) (dv1.mono x2)
  cases eq
  cases o2 <;> first | exact co2.elim | skip
  rename_i ws
  have co2 : DVs X.K g2 ds ws := co2
  exact ⟨q', ws, v, rfl, rfl, ho2, by rw [co2.length]; exact hl, ok.nx g2 _ σ _ (x1.trans x2) (R2.chgL (c' := .l (ds ++ [d])) (o' := .lst (ws ++ [v])) ha2 (co2.app (.cons dv .nil))) q2⟩
end
end VL
namespace VL
open PySem PySem.Spec PyProof.Rows L2
section
variable {X : Cx} {B : Bs} {W : WX} {a b c tg iter elt : Expr} {es : List Expr} {ma mb mc me : M D} {mes mi : M (List D)} {ta tb : M Bool} {p pos : Pos} {st : Stmt} {sts : List Stmt} {m k : MS} {mg : MG} {is : List Nat}
def isIns (C mt : Str) (h : List Cell) : D → Prop
  | .ins C' fs => C' = C ∧ fs.lookup mt = none
  | .loc i => ∃ fs, h[i]? = some (.o C fs) ∧ fs.lookup mt = none
  | _ => False
def mMethM (C mt : Str) (n : Nat) (F : FT) (mo : M D) (m : M (List D)) : M D := fun s Q E => mo s (fun d s1 => isIns C mt s1.n.h d ∧ m s1 (fun ds s' => ds.length + 1 = n ∧ F (d :: ds) s'.n (fun d n' => Q d ⟨s'.e, n'⟩) fun x n' => E x ⟨s'.e, n'⟩) E) E
theorem Rel.isIns {K : PySem.W.Frag} {B : Bs} {g : Gh} {s : VS} {σ : L2.St} {H : Hp} {C mt : Str} {d : D} {v : V} (R : Rel K B g s σ H) (dv : DV K g d v) (h : VL.isIns C mt s.n.h d) : ∃ o dx ws, v = .ref o ∧ H o = some (.ins (He.ga K C) dx ws) ∧ ws.lookup mt = none := by
  cases d <;> first | exact (show False from h).elim | skip
  · obtain ⟨rfl, hl⟩ := h
    simp only [DV] at dv
    obtain ⟨o, dx, ws, rfl, e1, e2⟩ := dv
    exact ⟨o, dx, ws, rfl, R.gh.sub _ _ e1, e2.no hl⟩
  · obtain ⟨fs, h1, hl⟩ := h
    obtain ⟨q', o, rfl, ha, ho, co⟩ := R.loc h1 (by simp) dv
    cases o <;> first | exact co.elim | skip
    obtain ⟨rfl, e2⟩ := co
    exact ⟨q', _, _, rfl, ho, DVf.no e2 hl⟩
theorem pm_methM {C mt : Str} {kk n : Nat} {F : FT} {fl : List Str} {apos : Pos} {pl : Sem Bool} (cl : ClsI X.K C fl) (h : HasM X.prog X.w X.K X.mg X.base C mt kk n F) (hr : Room kk X.A) (hgd : X.A.guards = some []) (tk : Takes X W) (ho : PM X B W b mb) (ha : PMA X B W (a :: es) mes)
    (hst : starEach (a :: es) X.env = (false, eval a X.env) :: starEach es X.env := by rfl) (hpl : (backTo pos (starEach es X.env)).any (·.1) = false := by rfl)
    (ht : eval (.Call (.Attribute b mt apos) (a :: es) [] pos) X.env = (do
      let ov ← eval b X.env
      standAt apos.atName
      let (f, first) ← holding [ov] (getMethod ov mt pl)
      callWith pos f first (backTo pos (starEach (a :: es) X.env)) (backToKw pos (keywordEach [] X.env))) := by rfl) :
    PM X B W (.Call (.Attribute b mt apos) (a :: es) [] pos) (mMethM C mt n F mb mes) := by
  obtain ⟨f, fd, ps, h2, h3, h4, h5⟩ := h
  refine ⟨fun pins s σ H Q I hq => ?_⟩
  obtain ⟨g, s0, Qd, E, R, hm, hk, hx⟩ := hq
  refine PySem.W.methodCall_KW (pl := pl) (thn (ho.run pins s σ H (fun v H1 => ∃ o dx ws, v = .ref o ∧ H1 o = some (.ins (He.ga X.K C) dx ws) ∧ ws.lookup mt = none ∧ rdA X.K B W mes σ H1 fun vs H2 => spOf X.K n F (v :: vs) H2 Q (WE W σ)) I ?_) fun u s1 hu => ?_) ht
  · refine ⟨g, s0, _, E, R, hm, fun g1 s1 H1 v d x1 R1 dv q1 => ?_, hx⟩
    obtain ⟨o, dx, ws, rfl, e1, e2⟩ := R1.isIns dv q1.1
    refine ⟨o, dx, ws, rfl, e1, e2, g1, s1, _, E, R1, q1.2, fun g2 s2 H2 vs ds x2 R2 dvs q2 => ?_, hx.mono x1⟩
    exact ⟨by rw [List.length_cons, dvs.length]; exact q2.1, g2, s2.n, _, _, _, R2.tb, R2.gh, .cons (dv.mono x2) dvs, q2.2, fun g3 H3 n3 v d e ok dv2 q3 => hk g3 _ H3 v d (x1.trans (x2.trans e.gx)) (R2.step e ok) dv2 q3,
      fun g3 H3 n3 y cls dd e ok ex q3 => hx g3 _ H3 y cls dd (x1.trans (x2.trans e.gx)) (R2.step e ok) ex q3⟩
  · obtain ⟨x, H1, I1, rx, o, dx, ws, rfl, e1, e2, q⟩ := hu
    obtain rfl : u = Value.ref o := rx
    refine getmeth_ok I1 e1 cl.cl h2 e2 ?_
    refine PySem.W.callWith_K (first := [.ref o]) (h₀ := X.base) I.ok.mod.kin h2.kp (thn (ha.run pos pins s1 σ H1 _ I1 q) fun us s2 ⟨vs, H2, I2, r, q2⟩ => ⟨I2.kIn, ?_⟩) hst hpl
    exact run_fnG (us := .ref o :: us) (vs := .ref o :: vs) h5 hr hgd h4 (passAt tk σ) I2 (.cons rfl r) q2
theorem pm_methM0 {C mt : Str} {kk n : Nat} {F : FT} {fl : List Str} {apos : Pos} {pl : Sem Bool} (cl : ClsI X.K C fl) (h : HasM X.prog X.w X.K X.mg X.base C mt kk n F) (hr : Room kk X.A) (hgd : X.A.guards = some []) (tk : Takes X W) (ho : PM X B W b mb)
    (ht : eval (.Call (.Attribute b mt apos) [] [] pos) X.env = (do
      let ov ← eval b X.env
      standAt apos.atName
      let (f, first) ← holding [ov] (getMethod ov mt pl)
      callWith pos f first (backTo pos (starEach [] X.env)) (backToKw pos (keywordEach [] X.env))) := by rfl) :
    PM X B W (.Call (.Attribute b mt apos) [] [] pos) (mMethM C mt n F mb mNil) := by
  obtain ⟨f, fd, ps, h2, h3, h4, h5⟩ := h
  refine ⟨fun pins s σ H Q I hq => ?_⟩
  obtain ⟨g, s0, Qd, E, R, hm, hk, hx⟩ := hq
  refine PySem.W.methodCall_KW (pl := pl) (thn (ho.run pins s σ H (fun v H1 => ∃ o dx ws, v = .ref o ∧ H1 o = some (.ins (He.ga X.K C) dx ws) ∧ ws.lookup mt = none ∧ spOf X.K n F [v] H1 Q (WE W σ)) I ?_) fun u s1 hu => ?_) ht
  · refine ⟨g, s0, _, E, R, hm, fun g1 s1 H1 v d x1 R1 dv q1 => ?_, hx⟩
    obtain ⟨o, dx, ws, rfl, e1, e2⟩ := R1.isIns dv q1.1
    have q2 := q1.2
    refine ⟨o, dx, ws, rfl, e1, e2, q2.1, g1, s1.n, _, _, _, R1.tb, R1.gh, .cons dv .nil, q2.2, fun g3 H3 n3 v d e ok dv2 q3 => hk g3 _ H3 v d (x1.trans e.gx) (R1.step e ok) dv2 q3,
      fun g3 H3 n3 y cls dd e ok ex q3 => hx g3 _ H3 y cls dd (x1.trans e.gx) (R1.step e ok) ex q3⟩
  · obtain ⟨x, H1, I1, rx, o, dx, ws, rfl, e1, e2, q⟩ := hu
    obtain rfl : u = Value.ref o := rx
    refine getmeth_ok I1 e1 cl.cl h2 e2 ?_
    exact PySem.W.callWith_K0 (first := [.ref o]) I1.kIn h2.kp (run_fnG (us := [.ref o]) (vs := [.ref o]) h5 hr hgd h4 (passAt tk σ) I1 (.cons rfl .nil) q)
end
end VL
namespace VL
open PySem PySem.Spec PyProof.Rows L2
section
variable {X : Cx} {B : Bs} {W : WX} {a b c : Expr} {es : List Expr} {ma mb mc : M D} {mes : M (List D)} {ta tb : M Bool} {p pos : Pos}
/-- *a in a display or in arguments -/
def mStar (m : M D) (k : M (List D)) : M (List D) := fun s Q E => m s (fun d s1 => match d with
  | .tup ds => k s1 (fun es s2 => Q (ds ++ es) s2) E
  | .lst ds => k s1 (fun es s2 => Q (ds ++ es) s2) E
  | _ => False) E
theorem pma_star {sp : Pos} (ha : PM X B W a ma) (hr : PMA X B W es mes) (hs : starEach (.Starred a sp :: es) X.env = (true, eval a X.env) :: starEach es X.env := by rfl) : PMA X B W (.Starred a sp :: es) (mStar ma mes) := by
  refine impA (StX.pa_star ha hr hs) fun σ H Q h => ?_
  obtain ⟨g, s, Qd, E, R, hm, hk, hx⟩ := h
  refine ⟨g, s, _, E, R, hm, fun g1 s1 H1 v d x1 R1 dv q1 => ?_, hx⟩
  have fin : ∀ ds us, DVs X.K g1 ds us → mes s1 (fun es s2 => Qd (ds ++ es) s2) E → rdA X.K B W mes σ H1 fun ys H2 => Q (us ++ ys) H2 := fun ds us du q => ⟨g1, s1, _, E, R1, q, fun g2 s2 H2 vs es x2 R2 dvs q2 => hk g2 s2 H2 _ _ (x1.trans x2) R2 ((du.mono x2).app dvs) q2, hx.mono x1⟩
  cases d <;> first | exact (show False from q1).elim | skip
  · obtain ⟨q, us, rfl, e1, s1'⟩ := dv.of_t
    exact ⟨q, us, rfl, .inl (sameT R1.gh.sub e1), fin _ _ s1' q1⟩
  · obtain ⟨q, us, rfl, e1, s1'⟩ := dv.of_l
    exact ⟨q, us, rfl, .inr (SqL.of (R1.gh.sub _ _ e1)), fin _ _ s1' q1⟩
/-- sum of a list or a tuple -/
def rSumA (K : PySem.W.Frag) : List V → Hp → VK → Prop := fun vs H Q => ∃ (a : Addr) (ns : List Int), vs = [V.ref a] ∧ (SqL K H a (ns.map V.int) ∨ SqT K H a (ns.map V.int)) ∧ Q (.int ns.sum) H
theorem cr_sumA (hc : X.calm = true) : CallR X (.builtin "sum") (rSumA X.K) := by
  intro pins s σ H vs us Q I r h
  obtain ⟨a, ns, rfl, hs, q⟩ := h
  rcases hs with hs | hs
  · exact cr_sum hc pins s σ H _ us Q I r ⟨a, ns, rfl, hs, q⟩
  · obtain ⟨its, rv, hl, _⟩ := I.tuple hs
    rw [Vals.ref1 r]
    have hi := rv.ints
    obtain ⟨xs, e⟩ := hi.allInts.items
    have hn : numsOf (intItems xs).toList = ns := by rw [← e]; exact hi.numsOf
    rw [nums_intItems] at hn
    have hl' : s.heap.IsTuple a its.toArray := hl
    rw [e] at hl'
    refine PySem.W.ktm_sumG (I.ok.hd hc) hl' fun h' tk t' hk => ?_
    rw [preSum_eq, List.take_of_length_le (by simp), hn]
    exact ⟨.int _, H, I.kept hk, ⟨_, rfl⟩, q⟩
def sumAD (ds : List D) (Q : D → Prop) : Prop := ∃ bs : List Int, (ds = [.lst (bs.map .int)] ∨ ds = [.tup (bs.map .int)]) ∧ Q (.int bs.sum)
theorem pm_sumA (hc : X.calm = true) (hm : X.mg "sum" = none) (ha : PM X B W a ma) (hg : Gl X "sum" := by rfl) (hs : starEach [a] X.env = [(false, eval a X.env)] := by rfl) : PM X B W (.Call (.Name "sum" p) [a] [] pos) (mB sumAD (mCons ma mNil)) := by
  refine pm_cb (cr_sumA hc) ?_ hg hm (by decide +kernel) (pma_cons ha pma_nil hs) (by decide) (by decide) hs
  intro g H n ds vs Qd Qv ok hd hf hk
  obtain ⟨bs, e | e, q⟩ := hf
  · subst e
    obtain ⟨v, rfl, h1⟩ := hd.one
    obtain ⟨a, us, rfl, e1, s1⟩ := h1.of_l
    have e := s1.of_ints
    subst e
    exact ⟨a, bs, rfl, .inl (SqL.of (ok.sub _ _ e1)), hk g H _ _ (Ext.refl _ _) ok DV.i q⟩
  · subst e
    obtain ⟨v, rfl, h1⟩ := hd.one
    obtain ⟨a, us, rfl, e1, s1⟩ := h1.of_t
    have e := s1.of_ints
    subst e
    exact ⟨a, bs, rfl, .inr (sameT ok.sub e1), hk g H _ _ (Ext.refl _ _) ok DV.i q⟩
end
end VL
namespace VL
open PySem PySem.Spec PyProof.Rows L2
/-- lists (false) and tuples (true) -/
def SqQ (t : Bool) (K : PySem.W.Frag) (H : Hp) (a : Addr) (xs : List V) : Prop := match t with
  | true => SqT K H a xs
  | false => SqL K H a xs
def itQ (t : Bool) (h : Heap) (it l : Addr) (i : Nat) : Prop := match t with
  | true => h.IsTupleIter it l i
  | false => h.IsListIter it l i
def isQ (t : Bool) (h : Heap) (l : Addr) (its : Array Value) : Prop := match t with
  | true => h.IsTuple l its
  | false => h.IsList l its
def itO (t : Bool) (l : Addr) : Obj := match t with
  | true => { cls := .type "tuple_iterator", data := .fields #[.ref l, .int 0 0] }
  | false => { cls := .type "list_iterator", data := .fields #[.ref l, .int 0 0] }
theorem drawsQ {prog : Program} {w : World} {A : Around} (t : Bool) (hh : A.handled = none) (it l : Addr) (hne : l ≠ it) (items : Array Value) : Draws prog w A it [it, l] items.size (fun i v => items[i]? = some v) (fun i h => itQ t h it l i ∧ isQ t h l items) := by
  cases t
  · exact Draws.list hh it l hne items
  · exact Draws.tuple hh it l hne items
theorem beginsQ (t : Bool) (l : Addr) (items : Array Value) : Begins (.ref l) (itO t l) fun h => isQ t h l items := by
  cases t
  · exact begins_list l items
  · exact begins_tuple l items
theorem itQ_new {t : Bool} {h : Heap} {it l : Addr} (e : h.get? it = some (itO t l)) : itQ t h it l 0 := by
  cases t
  · exact ⟨_, e, rfl, rfl⟩
  · exact ⟨_, e, rfl, rfl⟩
theorem itQ_at {t : Bool} {h h' : Heap} {it l : Addr} {i : Nat} (x : itQ t h it l i) (k : ∀ o, h.get? it = some o → h'.get? it = some o) : itQ t h' it l i := by
  cases t
  · exact Heap.IsListIter.at x k
  · exact Heap.IsTupleIter.at x k
theorem itQ_obj {t : Bool} {h : Heap} {it l : Addr} {i : Nat} (x : itQ t h it l i) : ∃ o vs, h.get? it = some o ∧ o.data = .fields vs := by
  cases t
  · obtain ⟨o, h1, _, h2⟩ := x
    exact ⟨o, _, h1, h2⟩
  · obtain ⟨o, h1, _, h2⟩ := x
    exact ⟨o, _, h1, h2⟩
section
variable {X : Cx} {pins : List (Addr × Obj)} {σ : L2.St} {H : Hp} {s : Shared}
theorem inv_sq {t : Bool} {a : Addr} {xs : List V} (I : Inv X pins σ H s) (h : SqQ t X.K H a xs) : ∃ its, Vals xs its ∧ isQ t s.heap a its.toArray ∧ a < s.heap.objs.size := by
  cases t
  · obtain ⟨its, r, p, _⟩ := I.list h
    exact ⟨its, r, p.isList, p.lt⟩
  · obtain ⟨its, r, p, _⟩ := I.tuple h
    refine ⟨its, r, p, ?_⟩
    obtain ⟨o, h1, _⟩ := p
    exact Heap.lt_size h1
theorem inv_inj {t : Bool} {a : Addr} {xs ys : List V} (I : Inv X pins σ H s) (h : SqQ t X.K H a xs) (k : SqQ t X.K H a ys) : xs = ys := by
  cases t
  · exact I.list_inj h k
  · exact I.tuple_inj h k
end
/-- the two as they stand at each turn, the items in new pairs -/
def ItzQ (t u : Bool) (K : PySem.W.Frag) (a b : Addr) : It :=
  ⟨fun i H => ∃ (xs ys : List V) (x y : V), SqQ t K H a xs ∧ SqQ u K H b ys ∧ xs[i]? = some x ∧ ys[i]? = some y,
    fun i H v H' => ∃ T x y, v = .ref T ∧ H T = none ∧ H' = upd H T (.tup [x, y]) ∧ (∀ xs, SqQ t K H a xs → xs[i]? = some x) ∧ ∀ ys, SqQ u K H b ys → ys[i]? = some y,
    fun i H => ∃ xs ys : List V, SqQ t K H a xs ∧ SqQ u K H b ys ∧ i ≤ xs.length ∧ i ≤ ys.length ∧ (i = xs.length ∨ i = ys.length)⟩
theorem turn_zipQ {P : Program} {w : World} {K : PySem.W.Frag} {elts : List Expr} {kk : Nat} {tpos : Pos} {a b z TI TO i1 i2 : Addr} (t u : Bool) (S : ZipSep2 z TI TO i1 i2 [i1, a] [i2, b]) (na : a ≠ i1) (nb : b ≠ i2) :
    Turn P w K (.Tuple elts kk tpos) (ItzQ t u K a b) [z, TI, TO, i1, i2] z (fun i h => IsZip h z TI TO .none ∧ IsTupOf2 h TI (.ref i1) (.ref i2) ∧ (∃ x y, IsTupOf2 h TO x y) ∧ itQ t h i1 a i ∧ itQ u h i2 b i) where
  mem := by simp
  obj := fun i h st c hc => by
    obtain ⟨hz, hTI, ⟨x, y, hTO⟩, h1, h2⟩ := st
    obtain ⟨o1, v1, e1, d1⟩ := itQ_obj h1
    obtain ⟨o2, v2, e2, d2⟩ := itQ_obj h2
    have e' : c = z ∨ c = TI ∨ c = TO ∨ c = i1 ∨ c = i2 := by simpa using hc
    rcases e' with q | q | q | q | q
    · rw [q]; exact ⟨_, hz, fun v q => nomatch q⟩
    · rw [q]; exact ⟨_, hTI, fun v q => nomatch q⟩
    · rw [q]; exact ⟨_, hTO, fun v q => nomatch q⟩
    · rw [q]; exact ⟨o1, e1, fun v q => by rw [d1] at q; cases q⟩
    · rw [q]; exact ⟨o2, e2, fun v q => by rw [d2] at q; cases q⟩
  keep := fun i h h' st k => by
    obtain ⟨hz, hTI, ⟨x, y, hTO⟩, h1, h2⟩ := st
    exact ⟨k z (by simp) _ hz, k TI (by simp) _ hTI, ⟨x, y, k TO (by simp) _ hTO⟩, itQ_at h1 fun o q => k i1 (by simp) o q, itQ_at h2 fun o q => k i2 (by simp) o q⟩
  item := by
    intro X hP hw hK hc i pins s σ H E I hf st hg
    subst hP hw hK
    obtain ⟨hz, hTI, ⟨x0, y0, hTO⟩, h1, h2⟩ := st
    obtain ⟨xs, ys, x, y, hqx, hqy, hx, hy⟩ := hg
    obtain ⟨its, rv, p, _⟩ := inv_sq I hqx
    obtain ⟨its2, rv2, p2, _⟩ := inv_sq I hqy
    have lx : i < its.toArray.size := by
      have := (List.getElem?_eq_some_iff.mp hx).1
      rw [rv.length] at this
      simpa using this
    have ly : i < its2.toArray.size := by
      have := (List.getElem?_eq_some_iff.mp hy).1
      rw [rv2.length] at this
      simpa using this
    obtain ⟨u1, hu, ru⟩ := rv.get hx
    obtain ⟨u2, hu2, ru2⟩ := rv2.get hy
    have hzl : z < s.heap.objs.size := Heap.lt_size hz
    have hd : X.A.in1.handled = none := I.ok.hd hc
    refine wpAny_pyNext_zipD2_item S (drawsQ (prog := X.prog) (w := X.w) t hd i1 a na its.toArray) (drawsQ (prog := X.prog) (w := X.w) u hd i2 b nb its2.toArray) hz hTI hTO ⟨h1, p⟩ ⟨h2, p2⟩ lx ly fun w1 w2 h' tk k1 k2 z' TO' h1' h2' hT hsz hk => ?_
    have e1 : w1 = u1 := by
      have k1' : its[i]? = some w1 := by simpa using k1
      rw [hu] at k1'
      exact (Option.some.inj k1').symm
    have e2 : w2 = u2 := by
      have k2' : its2[i]? = some w2 := by simpa using k2
      rw [hu2] at k2'
      exact (Option.some.inj k2').symm
    subst e1 e2
    refine ⟨_, rfl, wpAny_letOwnedTupleGo_zip (s := { s with heap := h', toks := tk }) z' fun h'' z'' sb => ?_⟩
    have hT2 : h''.get? s.heap.objs.size = some { cls := .type "tuple", data := .seq #[w1, w2] } := (sb.2 _ (Nat.ne_of_gt hzl)).trans hT
    have new : ObjOk X.prog X.w (upd H s.heap.objs.size (.tup [x, y])) h'' s.heap.objs.size (.tup [x, y]) :=
      ⟨by show 2 ≤ sizeLine; decide, [w1, w2], .cons ru (.cons ru2 .nil), ⟨_, hT2, rfl, _, rfl⟩⟩
    have I1 : Inv X pins σ (upd H s.heap.objs.size (.tup [x, y])) { s with heap := h'', toks := tk } :=
      I.turnedNew (t' := tk) (ch := [z, TI, TO, i1, i2]) (fun c o hb q => (sb.2 c (fun q' => hb (by simp [q']))).trans (hk c o (fun q' => hb (by simp [q'])) (fun q' => hb (by simp [q'])) (fun q' => hb (by simp [q'])) (fun q' => hb (by simp [q'])) q)) hf (Nat.le_refl _) new
    refine ⟨.ref s.heap.objs.size, _, I1, rfl, ⟨_, x, y, rfl, I.hok.fresh (Nat.le_refl _), rfl, fun l hl => by rw [inv_inj I hl hqx]; exact hx, fun l hl => by rw [inv_inj I hl hqy]; exact hy⟩, ⟨z'', ?_, ⟨w1, w2, ?_⟩, ?_, ?_⟩, fun c hcm => ?_⟩
    · exact (sb.2 _ S.TIz).trans (hk _ _ S.TIz S.TITO S.TIi1 S.TIi2 hTI)
    · exact (sb.2 _ S.TOz).trans TO'
    · exact itQ_at h1'.1 fun o q => (sb.2 _ S.zi1.symm).trans q
    · exact itQ_at h2'.1 fun o q => (sb.2 _ S.zi2.symm).trans q
    · have hlt : c < s.heap.objs.size := by
        have e' : c = z ∨ c = TI ∨ c = TO ∨ c = i1 ∨ c = i2 := by simpa using hcm
        obtain ⟨o1, v1, f1, d1⟩ := itQ_obj h1
        obtain ⟨o2, v2, f2, d2⟩ := itQ_obj h2
        rcases e' with q | q | q | q | q
        · rw [q]; exact hzl
        · rw [q]; exact Heap.lt_size hTI
        · rw [q]; exact Heap.lt_size hTO
        · rw [q]; exact Heap.lt_size f1
        · rw [q]; exact Heap.lt_size f2
      rw [upd_ne (Nat.ne_of_lt hlt)]
      exact (hf c hcm).1
  done := by
    intro X hP hw hK hc i pins s σ H E I hf st hg
    subst hP hw hK
    obtain ⟨hz, hTI, ⟨x0, y0, hTO⟩, h1, h2⟩ := st
    obtain ⟨xs, ys, hqx, hqy, le1, le2, hend⟩ := hg
    obtain ⟨its, rv, p, _⟩ := inv_sq I hqx
    obtain ⟨its2, rv2, p2, _⟩ := inv_sq I hqy
    have l1 := rv.length
    have l2 := rv2.length
    have hd : X.A.in1.handled = none := I.ok.hd hc
    exact wpAny_pyNext_zipD2_end S (drawsQ (prog := X.prog) (w := X.w) t hd i1 a na its.toArray) (drawsQ (prog := X.prog) (w := X.w) u hd i2 b nb its2.toArray) hz hTI hTO ⟨h1, p⟩ ⟨h2, p2⟩ (by simp; omega) (by simp; omega) (by simp; omega) fun h' tk hk => ⟨rfl, I.turnedL (t' := tk) (ch := [z, TI, TO, i1, i2]) (fun c o hb q =>
      hk c o (fun q' => hb (by simp [q'])) (fun q' => hb (by simp [q'])) (fun q' => hb (by simp [q'])) (fun q' => hb (by simp [q'])) q) hf⟩
  self := fun A i s Q E st h => wpAny_pyIter_zip st.1 h
def iZipM (K : PySem.W.Frag) (ta : TA) : TI := fun σ H R => ta σ H fun vs H1 => ∃ t u a b xs ys, vs = [.ref a, .ref b] ∧ SqQ t K H1 a xs ∧ SqQ u K H1 b ys ∧ R (ItzQ t u K a b) H1
theorem pi_zipM {X : Cx} {e e2 : Expr} {ta : TA} {p pos tpos : Pos} {elts : List Expr} {kk : Nat} (hg : Gl X "zip") (hm : X.mg "zip" = none) (ha : PA X [e, e2] ta)
    (hs : starEach [e, e2] X.env = (false, eval e X.env) :: starEach [e2] X.env := by rfl) (hpl : (backTo pos (starEach [e2] X.env)).any (·.1) = false := by rfl) :
    PI X (.Tuple elts kk tpos) (.Call (.Name "zip" p) [e, e2] [] pos) (iZipM X.K ta) := by
  refine ⟨fun pins s σ H R I h => ?_⟩
  refine Call_ (ld_blt I hg hm PyProof.Rows.boot_zip (PyProof.Rows.callWith_type1 (thn (ha.run pos pins s σ H _ I h) fun us s1 ⟨vs, H1, I1, r1, q1⟩ => ?_) hs hpl))
  obtain ⟨t, u, a, b, xs, ys, ex, hqx, hqy, q⟩ := q1
  subst ex
  cases r1 with
  | cons r rr =>
    cases rr with
    | cons r' rr =>
      cases rr
      cases r
      cases r'
      obtain ⟨its, rv, p1, la⟩ := inv_sq I1 hqx
      obtain ⟨its2, rv2, p2, lb⟩ := inv_sq I1 hqy
      refine zip_begins2 (beginsQ t a its.toArray) (beginsQ u b its2.toArray) p1 p2 fun h' hz hTI hTO h1 h2 hsz hk => wpAny_pyIter_zip hz ?_
      have I2 : Inv X pins σ H1 { s1 with heap := h' } := I1.kept (t' := s1.toks) hk
      refine ⟨s1.heap.objs.size + 4, [s1.heap.objs.size + 4, s1.heap.objs.size + 2, s1.heap.objs.size + 3, s1.heap.objs.size, s1.heap.objs.size + 1], _, _, H1, rfl, I2, turn_zipQ t u (zip_sep2 (N := s1.heap.objs.size) (fp1 := [a]) (fp2 := [b]) (fun c hc => by rw [List.mem_singleton.mp hc]; exact la) (fun c hc => by rw [List.mem_singleton.mp hc]; exact lb)) (Nat.ne_of_lt la) (Nat.ne_of_lt (Nat.lt_succ_of_lt lb)), ⟨hz, hTI, ⟨_, _, hTO⟩, itQ_new h1, itQ_new h2⟩, fun c hcm => ?_, q⟩
      have e' : c = s1.heap.objs.size + 4 ∨ c = s1.heap.objs.size + 2 ∨ c = s1.heap.objs.size + 3 ∨ c = s1.heap.objs.size ∨ c = s1.heap.objs.size + 1 := by simpa using hcm
      have hle : s1.heap.objs.size ≤ c := by
        rcases e' with z | z | z | z | z
        · rw [z]; exact Nat.le_add_right _ _
        · rw [z]; exact Nat.le_add_right _ _
        · rw [z]; exact Nat.le_add_right _ _
        · rw [z]; exact Nat.le_refl _
        · rw [z]; exact Nat.le_add_right _ _
      exact I1.fpOk hle (I1.hok.fresh hle)
theorem walk_zipQ {K : PySem.W.Frag} {t u : Bool} {a b : Addr} {xs ys : List V} {n : Nat} (hn : n = min xs.length ys.length) : Walk (ItzQ t u K a b) n (fun H => SqQ t K H a xs ∧ SqQ u K H b ys) (YPair (fun i => xs[i]?) (fun i => ys[i]?)) := by
  subst hn
  refine ⟨fun i _ hi q => ?_, fun _ q => ⟨xs, ys, q.1, q.2, by omega, by omega, by omega⟩, fun i H v H' _ q y => ?_⟩
  · have h1 : i < xs.length := by omega
    have h2 : i < ys.length := by omega
    exact ⟨xs, ys, xs[i], ys[i], q.1, q.2, by simp [h1], by simp [h2]⟩
  · obtain ⟨T, x, z, h1, h2, h3, h4, h5⟩ := y
    exact ⟨T, x, z, h1, h2, h3, h4 xs q.1, h5 ys q.2⟩
section
variable {X : Cx} {B : Bs} {W : WX} {a b c : Expr} {ma mb mc : M D} {p pos : Pos}
/-- what is in a list or a tuple -/
def seqD : D → Option (Bool × List D)
  | .lst ds => some (false, ds)
  | .tup ds => some (true, ds)
  | _ => none
def itZ2 (ds : List D) (Q : List D → Prop) : Prop := match ds with
  | [x, y] => ∃ t u xs ys, seqD x = some (t, xs) ∧ seqD y = some (u, ys) ∧ Q (pairs xs ys)
  | _ => False
theorem seq_V {K : PySem.W.Frag} {g : Gh} {d : D} {v : V} {t : Bool} {ds : List D} (h : DV K g d v) (e : seqD d = some (t, ds)) : ∃ a vs, v = .ref a ∧ (∀ g' H', Gx g g' → Same g'.G H' → SqQ t K H' a vs) ∧ DVs K g ds vs := by
  cases d <;> simp only [seqD] at e <;> cases e
  · obtain ⟨a1, v1, rfl, e1, s1'⟩ := h.of_t
    exact ⟨a1, v1, rfl, fun g' H' y hg => sameT (y.1.trans hg) e1, s1'⟩
  · obtain ⟨a1, v1, rfl, e1, s1'⟩ := h.of_l
    exact ⟨a1, v1, rfl, fun g' H' y hg => SqL.of (hg _ _ (y.1 _ _ e1)), s1'⟩
theorem pmi_zip2 {elts : List Expr} {kk : Nat} {tpos : Pos} (hm : X.mg "zip" = none) (ha : PM X B W a ma) (hb : PM X B W b mb) (hg : Gl X "zip" := by rfl) (hs : starEach [a, b] X.env = (false, eval a X.env) :: starEach [b] X.env := by rfl) (hs2 : starEach [b] X.env = [(false, eval b X.env)] := by rfl)
    (hpl : (backTo pos (starEach [b] X.env)).any (·.1) = false := by rfl) : PMI X B W (.Tuple elts kk tpos) (.Call (.Name "zip" p) [a, b] [] pos) (mItA itZ2 (mCons ma (mCons mb mNil))) := by
  refine impI (pi_zipM hg hm (pma_cons ha (pma_cons hb pma_nil hs2) hs) hs hpl) fun σ H Q h => ?_
  obtain ⟨g, s, Qd, E, R, hm, hk, hx⟩ := h
  refine ⟨g, s, _, E, R, hm, fun g1 s1 H1 vs ds x1 R1 dv q1 => ?_, hx⟩
  unfold itZ2 at q1
  split at q1
  · obtain ⟨t, u, xs, ys, e1, e2, q1⟩ := q1
    obtain ⟨v, u', rfl, h1, h2⟩ := dv.two
    obtain ⟨a1, v1, rfl, k1, s1'⟩ := seq_V h1 e1
    obtain ⟨a2, v2, rfl, k2, s2'⟩ := seq_V h2 e2
    refine ⟨t, u, a1, a2, v1, v2, rfl, k1 g1 H1 (Gx.refl _) R1.gh.sub, k2 g1 H1 (Gx.refl _) R1.gh.sub, hk g1 s1 H1 _ _ x1 R1 ?_ q1⟩
    exact pair_ok (walk_zipQ rfl) (fun g' H' y hg => ⟨k1 g' H' y hg, k2 g' H' y hg⟩) (by rw [List.length_zip, s1'.length, s2'.length]) (zip_at s1' s2')
  · exact q1.elim
end
end VL
namespace VL
open PySem PySem.Spec PyProof.Rows L2
theorem meets_enum1 {v : Value} {o : Obj} {H : Heap → Prop} (B : Begins v o H) :
    Meets (Builtin.«enumerate.__new__» ⟨[.type "enumerate", v], []⟩) (fun _ R s => H s.heap ∧
      R (.ok (.ret (.ref (s.heap.push o).objs.size))) { s with heap := (s.heap.push o).push { cls := .type "enumerate", data := .fields #[.none, .bool false, .ref s.heap.objs.size, rawInt 0, .none, .none] } }) :=
  .of_wp fun prog w A R s h => by
    obtain ⟨hp, g, d, tk, os⟩ := s; obtain ⟨h1, h⟩ := h
    have hsub := sub_enumerate
    have q1 : ∀ {A' : Around} {E : Value → Shared → Prop} {Q : Value → Shared → Prop}, Q (.ref hp.objs.size) ⟨hp.push o, g, d, tk, os⟩ → wpAny (model prog w) A' (pyIter v) Q E ⟨hp, g, d, tk, os⟩ :=
      fun q => B.iter prog w _ _ ⟨hp, g, d, tk, os⟩ _ h1 q
    wp_walk using q1
    refine wpAny_stack_any fun st => wpAny_pure ?_
    split
    · rename_i c _ _ _ _ _
      cases (c == Value.type "enumerate")
      · wp_walk using q1
        exact ⟨_, rfl, h⟩
      · wp_walk using q1
        exact ⟨_, rfl, h⟩
    · wp_walk using q1
      exact ⟨_, rfl, h⟩
theorem enum_begins1 {prog : Program} {w : World} {A : Around} {E : Value → Shared → Prop} {s : Shared} {v : Value} {o : Obj} {H : Heap → Prop} {Q : Value → Shared → Prop} (B : Begins v o H) (h1 : H s.heap)
    (h : ∀ h', IsEnum h' (s.heap.objs.size + 1) s.heap.objs.size 0 .none → h'.get? s.heap.objs.size = some o → h'.objs.size = s.heap.objs.size + 2 →
      (∀ b o, s.heap.get? b = some o → h'.get? b = some o) → Q (.ref (s.heap.objs.size + 1)) { s with heap := h' }) :
    wpAny (model prog w) A (call (.type "enumerate") [v]) Q E s := by
  refine callType_new F.called_enumerate (by decide) (F.typeCall_enumerate_1 _) (F.newCall_enumerate_1 _) (fun obj => F.args_object_init_2 obj _) F.entry_enumerate_new (meets_enum1 B) ⟨h1, ?_⟩
  have hz : (s.heap.push o).objs.size = s.heap.objs.size + 1 := Heap.size_push ..
  show _ ∧ _
  rw [hz]
  have he : IsEnum ((s.heap.push o).push { cls := .type "enumerate", data := .fields #[.none, .bool false, .ref s.heap.objs.size, rawInt 0, .none, .none] }) (s.heap.objs.size + 1) s.heap.objs.size 0 .none := by
    have := Heap.get?_push_size (s.heap.push o) (o := { cls := .type "enumerate", data := .fields #[.none, .bool false, .ref s.heap.objs.size, rawInt 0, .none, .none] }) rfl
    rw [hz] at this; exact this
  refine ⟨⟨_, he, rfl⟩, h _ he (Heap.get?_push_of_some _ (Heap.get?_push_size _ B.free)) (by rw [Heap.size_push, hz]) fun b o x => Heap.get?_push_of_some _ (Heap.get?_push_of_some _ x)⟩
def IteQ (t : Bool) (K : PySem.W.Frag) (a : Addr) : It :=
  ⟨fun i H => ∃ (xs : List V) (x : V), SqQ t K H a xs ∧ xs[i]? = some x, fun i H v H' => ∃ T x, v = .ref T ∧ H T = none ∧ H' = upd H T (.tup [.int (i : Nat), x]) ∧ ∀ xs, SqQ t K H a xs → xs[i]? = some x, fun i H => ∃ xs : List V, SqQ t K H a xs ∧ xs.length = i⟩
theorem turn_enumQ {P : Program} {w : World} {K : PySem.W.Frag} {elts : List Expr} {kk : Nat} {tpos : Pos} (t : Bool) (a e it : Addr) (na : a ≠ it) (ne : a ≠ e) (nei : e ≠ it) :
    Turn P w K (.Tuple elts kk tpos) (IteQ t K a) [e, it] e (fun i h => (∃ old, IsEnum h e it ((i : Nat) : Int) old) ∧ itQ t h it a i) where
  mem := by simp
  obj := fun i h st b hb => by
    obtain ⟨⟨old, he⟩, hi⟩ := st
    obtain ⟨o, v, ho, hd⟩ := itQ_obj hi
    have e' : b = e ∨ b = it := by simpa using hb
    rcases e' with z | z
    · rw [z]; exact ⟨_, he, fun v q => nomatch q⟩
    · rw [z]; exact ⟨o, ho, fun v q => by rw [hd] at q; cases q⟩
  keep := fun i h h' st k => let ⟨⟨old, he⟩, hi⟩ := st; ⟨⟨old, k e (by simp) _ he⟩, itQ_at hi fun o q => k it (by simp) o q⟩
  item := by
    intro X hP hw hK hc i pins s σ H E I hf st hg
    subst hP hw hK
    obtain ⟨⟨old, he⟩, hit⟩ := st
    obtain ⟨xs, x, hq, hx⟩ := hg
    obtain ⟨its, rv, p, _⟩ := inv_sq I hq
    obtain ⟨u, hu, ru⟩ := rv.get hx
    have lx : i < its.toArray.size := by
      have := (List.getElem?_eq_some_iff.mp hx).1
      rw [rv.length] at this
      simpa using this
    have hel : e < s.heap.objs.size := Heap.lt_size he
    have hil : it < s.heap.objs.size := by obtain ⟨_, _, q, _⟩ := itQ_obj hit; exact Heap.lt_size q
    have hd : X.A.in1.handled = none := I.ok.hd hc
    refine wpAny_pyNext_enum_itemD (drawsQ (prog := X.prog) (w := X.w) t hd it a na its.toArray) he ⟨hit, p⟩ lx nei (by simp [nei, Ne.symm ne]) fun w1 h' tk k1 ho hit' hT hsz hk => ?_
    have e1 : w1 = u := by
      have k1' : its[i]? = some w1 := by simpa using k1
      rw [hu] at k1'
      exact (Option.some.inj k1').symm
    subst e1
    refine ⟨_, rfl, wpAny_letOwnedTupleGo_enum (s := { s with heap := h', toks := tk + 1 }) ho fun h'' he' sb => ?_⟩
    have hT2 : h''.get? s.heap.objs.size = some { cls := .type "tuple", data := .seq #[.int i tk, w1] } := (sb.2 _ (Nat.ne_of_gt hel)).trans hT
    have new : ObjOk X.prog X.w (upd H s.heap.objs.size (.tup [.int (i : Nat), x])) h'' s.heap.objs.size (.tup [.int (i : Nat), x]) :=
      ⟨by show 2 ≤ sizeLine; decide, [.int i tk, w1], .cons ⟨_, rfl⟩ (.cons ru .nil), ⟨_, hT2, rfl, _, rfl⟩⟩
    have I1 : Inv X pins σ (upd H s.heap.objs.size (.tup [.int (i : Nat), x])) { s with heap := h'', toks := tk + 1 } :=
      I.turnedNew (ch := [e, it]) (fun b ob hb q => (sb.2 b (fun z => hb (by simp [z]))).trans (hk b ob (fun z => hb (by simp [z])) (fun z => hb (by simp [z])) q)) hf (Nat.le_refl _) new
    refine ⟨.ref s.heap.objs.size, _, I1, rfl, ⟨_, x, rfl, I.hok.fresh (Nat.le_refl _), rfl, fun ys hy => by rw [inv_inj I hy hq]; exact hx⟩, ⟨⟨w1, ?_⟩, itQ_at hit'.1 fun o q => (sb.2 it (Ne.symm nei)).trans q⟩, fun b hb => ?_⟩
    · have e1 : ((i + 1 : Nat) : Int) = (i : Int) + 1 := by omega
      rw [e1]; exact he'
    · have hb' : b < s.heap.objs.size := by
        have e' : b = e ∨ b = it := by simpa using hb
        rcases e' with z | z
        · rw [z]; exact hel
        · rw [z]; exact hil
      rw [upd_ne (Nat.ne_of_lt hb')]
      exact (hf b hb).1
  done := by
    intro X hP hw hK hc i pins s σ H E I hf st hg
    subst hP hw hK
    obtain ⟨⟨old, he⟩, hit⟩ := st
    obtain ⟨xs, hq, hx⟩ := hg
    obtain ⟨its, rv, p, _⟩ := inv_sq I hq
    obtain ⟨f0, f1, f2, f3, f4, f5⟩ := hf it (by simp)
    have hl := rv.length
    have hd : X.A.in1.handled = none := I.ok.hd hc
    have en : i = its.toArray.size := by simp; omega
    exact wpAny_pyNext_enum_endD (drawsQ (prog := X.prog) (w := X.w) t hd it a na its.toArray) he (by rw [← en]; exact ⟨hit, p⟩) fun h' eb => ⟨rfl, I.turned (t' := s.toks) (fun b o hb q => eb b o hb q) f0 f1 f3 f4 f5⟩
  self := fun A i s Q E st h => let ⟨⟨_, he⟩, _⟩ := st; wpAny_pyIter_enum he h
def iEnumM (K : PySem.W.Frag) (ta : TA) : TI := fun σ H R => ta σ H fun vs H1 => ∃ t a xs, vs = [.ref a] ∧ SqQ t K H1 a xs ∧ R (IteQ t K a) H1
theorem pi_enumM {X : Cx} {e : Expr} {ta : TA} {p pos tpos : Pos} {elts : List Expr} {kk : Nat} (hg : Gl X "enumerate") (hm : X.mg "enumerate" = none) (ha : PA X [e] ta) (hs : starEach [e] X.env = [(false, eval e X.env)] := by rfl) :
    PI X (.Tuple elts kk tpos) (.Call (.Name "enumerate" p) [e] [] pos) (iEnumM X.K ta) := by
  refine ⟨fun pins s σ H R I h => ?_⟩
  refine Call_ (ld_blt I hg hm boot_enumerate (PyProof.Rows.callWith_type1 (thn (ha.run pos pins s σ H _ I h) fun us s1 ⟨vs, H1, I1, r1, q1⟩ => ?_) hs rfl))
  obtain ⟨t, a, xs, ex, hq, q⟩ := q1
  subst ex
  cases r1 with
  | cons r rr =>
    cases rr
    cases r
    obtain ⟨its, rv, p', la⟩ := inv_sq I1 hq
    refine enum_begins1 (beginsQ t a its.toArray) p' fun h' he hit hsz hk => wpAny_pyIter_enum he ?_
    have I2 : Inv X pins σ H1 { s1 with heap := h' } := I1.kept (t' := s1.toks) hk
    refine ⟨s1.heap.objs.size + 1, [s1.heap.objs.size + 1, s1.heap.objs.size], _, _, H1, rfl, I2, turn_enumQ t a (s1.heap.objs.size + 1) s1.heap.objs.size (Nat.ne_of_lt la) (Nat.ne_of_lt (Nat.lt_succ_of_lt la)) (Nat.succ_ne_self _), ⟨⟨.none, he⟩, itQ_new hit⟩, fun b hb => ?_, q⟩
    have e' : b = s1.heap.objs.size + 1 ∨ b = s1.heap.objs.size := by simpa using hb
    have hle : s1.heap.objs.size ≤ b := by
      rcases e' with z | z
      · rw [z]; exact Nat.le_add_right _ _
      · rw [z]; exact Nat.le_refl _
    exact I1.fpOk hle (I1.hok.fresh hle)
theorem walk_enumQ {K : PySem.W.Frag} {t : Bool} {a : Addr} {xs : List V} : Walk (IteQ t K a) xs.length (fun H => SqQ t K H a xs) (YPair (fun i => some (.int (i : Nat))) (fun i => xs[i]?)) := by
  refine ⟨fun i _ hi q => ⟨xs, xs[i], q, by simp [hi]⟩, fun _ q => ⟨xs, q, rfl⟩, fun i H v H' _ q y => ?_⟩
  obtain ⟨T, x, h1, h2, h3, h4⟩ := y
  exact ⟨T, _, x, h1, h2, h3, rfl, h4 xs q⟩
section
variable {X : Cx} {B : Bs} {W : WX} {a b c : Expr} {ma mb mc : M D} {p pos : Pos}
def itE2 (ds : List D) (Q : List D → Prop) : Prop := match ds with
  | [x] => ∃ t xs, seqD x = some (t, xs) ∧ Q (numbered xs)
  | _ => False
theorem pmi_enum2 {elts : List Expr} {kk : Nat} {tpos : Pos} (hm : X.mg "enumerate" = none) (ha : PM X B W a ma) (hg : Gl X "enumerate" := by rfl) (hs : starEach [a] X.env = [(false, eval a X.env)] := by rfl) :
    PMI X B W (.Tuple elts kk tpos) (.Call (.Name "enumerate" p) [a] [] pos) (mItA itE2 (mCons ma mNil)) := by
  refine impI (pi_enumM hg hm (pma_cons ha pma_nil hs) hs) fun σ H Q h => ?_
  obtain ⟨g, s, Qd, E, R, hm, hk, hx⟩ := h
  refine ⟨g, s, _, E, R, hm, fun g1 s1 H1 vs ds x1 R1 dv q1 => ?_, hx⟩
  unfold itE2 at q1
  split at q1
  · obtain ⟨t, xs, e1, q1⟩ := q1
    obtain ⟨v, rfl, h1⟩ := dv.one
    obtain ⟨a1, v1, rfl, k1, s1'⟩ := seq_V h1 e1
    refine ⟨t, a1, v1, rfl, k1 g1 H1 (Gx.refl _) R1.gh.sub, hk g1 s1 H1 _ _ x1 R1 ?_ q1⟩
    have z := pair_ok (K := X.K) (g := g1) (ps := xs.zipIdx.map fun q => (.int (q.2 : Nat), q.1)) (walk_enumQ (K := X.K) (t := t) (a := a1) (xs := v1)) (fun g' H' y hg => k1 g' H' y hg) (by rw [List.length_map, List.length_zipIdx, s1'.length]) ?_
    · unfold numbered
      rw [List.map_map] at z
      exact z
    · intro i d e hi
      rw [List.getElem?_map, List.getElem?_zipIdx] at hi
      cases q : xs[i]? with
      | none => rw [q] at hi; cases hi
      | some d' =>
        rw [q] at hi
        simp at hi
        obtain ⟨rfl, rfl⟩ := hi
        refine ⟨fun x hx => ?_, fun y hy => ?_⟩
        · cases hx
          exact DV.i
        · obtain ⟨v', e', dv'⟩ := s1'.get q
          rw [hy] at e'
          cases e'
          exact dv'
  · exact q1.elim
end
end VL
namespace VL
open PySem PySem.Spec PyProof.Rows L2
end VL
namespace VL
open PySem L2
def tupB (K : PySem.W.Frag) (a : Addr) (vs : List V) : Bool := match K.lookup a with
  | some ⟨.type c, _, .seq its _, _⟩ => decide (c = "tuple") && (decide (its.size ≤ sizeLine) && He.relAll vs its.toList)
  | _ => false
theorem tupB_ok {K : PySem.W.Frag} {a : Addr} {vs : List V} {H : Hp} (h : tupB K a vs = true) : SqT K H a vs := by
  unfold tupB at h
  split at h
  · rename_i c d its m sl e
    obtain ⟨h1, h⟩ := He.ba h
    obtain ⟨h2, h3⟩ := He.ba h
    refine .inr ⟨_, its, m, e, ?_, rfl, of_decide_eq_true h2, He.relAll_ok h3⟩
    rw [show c = "tuple" from of_decide_eq_true h1]
  · cases h
end VL
namespace VL
open PySem L2
theorem lsz {n : Nat} (h : n ≤ 1000) : n ≤ sizeLine := Nat.le_trans h (by decide)
theorem pm_lit {X : Cx} {B : Bs} {W : WX} {e : Expr} {m m' : M D} (hi : ∀ s Q E, m' s Q E → m s Q E) (h : PM X B W e m) : PM X B W e m' := impE h fun σ H Q ⟨g, s, Qd, E, R, hm, hk, hx⟩ => ⟨g, s, Qd, E, R, hi _ _ _ hm, hk, hx⟩
end VL
namespace VL
open PySem PySem.Spec PyProof.Rows L2
def frLT (as : List Addr) (g : Addr → Option Obj) : PySem.W.Frag := (He.frG g as).filter fun q => !He.emptyTab q.2
theorem frLT_mem {as : List Addr} {g : Addr → Option Obj} {a : Addr} {o : Obj} (h : (frLT as g).lookup a = some o) : g a = some o ∧ He.emptyTab o = false := by
  obtain ⟨h1, h2⟩ := List.mem_filter.mp (He.lookup_mem h)
  exact ⟨He.frG_mem h1, by
    cases q : He.emptyTab o with
    | false => rfl
    | true =>
      have h3 : (!He.emptyTab o) = true := h2
      rw [q] at h3
      cases h3⟩
theorem frLT_none {as : List Addr} {g : Addr → Option Obj} {a : Addr} {o : Obj} (h : g a = some o) (ht : He.emptyTab o = true) : (frLT as g).lookup a = none := by
  cases e : (frLT as g).lookup a with
  | none => rfl
  | some u =>
    obtain ⟨h1, h2⟩ := frLT_mem e
    rw [h] at h1
    rw [← Option.some.inj h1, ht] at h2
    cases h2
def obsTL (as : List Addr) (fa : List He.Fa) (fn : List He.DefD) (er : List ErrD) (xf : PySem.W.Frag → Bool) (g : Addr → Option Obj) : AlT := (obsX fa fn er xf (frLT as g), tabsB g (frLT as g))
theorem tabsAtL_of {as : List Addr} {h : Heap} (e : tabsB h.get? (frLT as h.get?) = true) : TabsAt h (frLT as h.get?) := by
  obtain ⟨e1, e2⟩ := He.ba e
  have key : ∀ p ∈ csOf (frLT as h.get?), PySem.W.codeHdIn (frLT as h.get?) p.1 p.2 = true ∧ ∃ o, h.get? p.2 = some o ∧ He.emptyTab o = true := fun p hp => by
    obtain ⟨h3, h4⟩ := He.ba (List.all_eq_true.mp e1 p hp)
    refine ⟨h3, ?_⟩
    cases q : h.get? p.2 with
    | none =>
      rw [q] at h4
      cases h4
    | some o =>
      rw [q] at h4
      exact ⟨o, rfl, h4⟩
  refine ⟨fun p hp => (key p hp).1, fun p hp => ?_, fun p hp => ?_, of_decide_eq_true e2⟩
  · obtain ⟨_, o, q, z⟩ := key p hp
    exact frLT_none q z
  · obtain ⟨_, o, q, z⟩ := key p hp
    rw [q, He.emptyTab_eq z]
def hookL (as : List Addr) (fa : List He.Fa) (fn : List He.DefD) (er : List ErrD) (xf : PySem.W.Frag → Bool) : PySem.W.Hook where
  α := AlT
  obs := fun s => obsTL as fa fn er xf s.heap.get?
  val := fun _ => (valX fn er, true)
  says := fun _ h => ∃ K : PySem.W.Frag, K.In h ∧ SaysX fa fn er xf K ∧ TabsAt h K
  of := fun _ _ e => ⟨_, fun _ _ q => (frLT_mem q).1, congrArg (fun z : AlT => z.1) e, tabsAtL_of (congrArg (fun z : AlT => z.2) e)⟩
  keeps := fun _ _ _ ⟨K, hK, c, t⟩ k => ⟨K, PySem.W.Frag.In.keeps hK k, c, ⟨t.hd, t.out, fun p hp => k _ _ (t.empty p hp), t.nd⟩⟩
theorem obsTL_eq {as : List Addr} {fa : List He.Fa} {fn : List He.DefD} {er : List ErrD} {xf : PySem.W.Frag → Bool} {g : Addr → Option Obj} {s : Shared} (h : ∀ a, g a = s.heap.get? a) : obsTL as fa fn er xf g = (hookL as fa fn er xf).obs s := by
  have e : g = s.heap.get? := funext h
  rw [e]
  rfl
/-- the head's equation, put together of parts (each proved apart wants less memory) -/
theorem run_parts {S β γ : Type} {o : Option S} {f1 : S → β} {f2 : S → γ} {b : β} {c : γ} {K : S → PySem.W.Frag} {tb : S → Bool} {fa : List He.Fa} {fn : List He.DefD} {er : List ErrD} {xf : PySem.W.Frag → Bool}
    (hB : o.map (fun s => (f1 s, f2 s)) = some (b, c))
    (h1 : o.map (fun s => (fa.all fun f => f.ok (K s)) && (fn.all fun d => d.ok (K s))) = some true)
    (h2 : o.map (fun s => ((er.all fun e => e.ok (K s)) && (sysB (K s) && xf (K s)), fn.map (fun d => He.fnW (K s) d.at_), er.map (fun e => erW (K s) e), tb s)) = some (true, fn.map He.DefD.val, er.map ErrD.val, true)) :
    o.map (fun s => (f1 s, f2 s, ((obsX fa fn er xf (K s), tb s) : AlT))) = some (b, c, (valX fn er, true)) := by
  cases o with
  | none => cases hB
  | some s =>
    simp only [Option.map_some, Option.some.injEq, Prod.mk.injEq] at hB h1 h2 ⊢
    obtain ⟨e1, e2⟩ := hB
    obtain ⟨e3, e4, e5, e6⟩ := h2
    obtain ⟨e7, e8⟩ := He.ba h1
    refine ⟨e1, e2, ?_, e6⟩
    unfold obsX valX
    rw [e7, e8, e3, e4, e5]
    rfl
end VL
namespace K11
open PySem L2 VL KL KM KP KT SS
abbrev P : Program := PySem.Challenge.pw_anycogs_k11_whole_turning_shafts
def top (i : Nat) : Stmt := PySem.Challenge.pw_anycogs_k11_whole_turning_shafts.main.body.getD i (.Pass ⟨0, 0, 0, 0⟩)
def inClass (st : Stmt) (i : Nat) : Stmt := match st with
  | .ClassDef _ _ _ body _ _ _ _ _ _ _ => body.getD i (.Pass ⟨0, 0, 0, 0⟩)
  | _ => .Pass ⟨0, 0, 0, 0⟩
abbrev st_is_word : Stmt := top 9
abbrev nm_is_word : List Str := ["thing", "letter"]
theorem sc_is_word : FnScope nm_is_word ["thing"] (defScope st_is_word) := ⟨rfl, rfl, rfl, by decide +kernel, rfl, by decide +kernel, by decide +kernel⟩
abbrev st_is_number : Stmt := top 10
abbrev nm_is_number : List Str := ["thing"]
theorem sc_is_number : FnScope nm_is_number ["thing"] (defScope st_is_number) := ⟨rfl, rfl, rfl, by decide +kernel, rfl, by decide +kernel, by decide +kernel⟩
abbrev st_is_among : Stmt := top 11
abbrev nm_is_among : List Str := ["thing", "least", "most"]
theorem sc_is_among : FnScope nm_is_among ["thing", "least", "most"] (defScope st_is_among) := ⟨rfl, rfl, rfl, by decide +kernel, rfl, by decide +kernel, by decide +kernel⟩
abbrev st_need_sizes : Stmt := top 12
abbrev nm_need_sizes : List Str := ["thing", "one", "other"]
theorem sc_need_sizes : FnScope nm_need_sizes ["thing"] (defScope st_need_sizes) := ⟨rfl, rfl, rfl, by decide +kernel, rfl, by decide +kernel, by decide +kernel⟩
abbrev st_added : Stmt := top 13
abbrev nm_added : List Str := ["one", "other", "first", "second"]
theorem sc_added : FnScope nm_added ["one", "other"] (defScope st_added) := ⟨rfl, rfl, rfl, by decide +kernel, rfl, by decide +kernel, by decide +kernel⟩
abbrev st_times_so : Stmt := top 18
abbrev nm_times_so : List Str := ["speed", "product", "one"]
theorem sc_times_so : FnScope nm_times_so ["speed", "product"] (defScope st_times_so) := ⟨rfl, rfl, rfl, by decide +kernel, rfl, by decide +kernel, by decide +kernel⟩
abbrev st_is_kind : Stmt := top 28
abbrev nm_is_kind : List Str := ["thing"]
theorem sc_is_kind : FnScope nm_is_kind ["thing"] (defScope st_is_kind) := ⟨rfl, rfl, rfl, by decide +kernel, rfl, by decide +kernel, by decide +kernel⟩
abbrev st_is_size : Stmt := top 29
abbrev nm_is_size : List Str := ["sizes", "thing"]
theorem sc_is_size : FnScope nm_is_size ["sizes", "thing"] (defScope st_is_size) := ⟨rfl, rfl, rfl, by decide +kernel, rfl, by decide +kernel, by decide +kernel⟩
abbrev st_is_link : Stmt := top 30
abbrev nm_is_link : List Str := ["sizes", "names", "thing"]
theorem sc_is_link : FnScope nm_is_link ["sizes", "names", "thing"] (defScope st_is_link) := ⟨rfl, rfl, rfl, by decide +kernel, rfl, by decide +kernel, by decide +kernel⟩
abbrev st_are_links : Stmt := top 31
abbrev nm_are_links : List Str := ["sizes", "names", "thing", "most", "link"]
theorem sc_are_links : FnScope nm_are_links ["sizes", "names", "thing", "most"] (defScope st_are_links) := ⟨rfl, rfl, rfl, by decide +kernel, rfl, by decide +kernel, by decide +kernel⟩
abbrev st_is_shaft : Stmt := top 32
abbrev nm_is_shaft : List Str := ["sizes", "names", "thing", "name", "mode", "way", "links"]
theorem sc_is_shaft : FnScope nm_is_shaft ["sizes", "names", "thing"] (defScope st_is_shaft) := ⟨rfl, rfl, rfl, by decide +kernel, rfl, by decide +kernel, by decide +kernel⟩
abbrev st_ratio : Stmt := top 33
abbrev nm_ratio : List Str := ["sizes", "one", "other", "size"]
theorem sc_ratio : FnScope nm_ratio ["sizes", "one", "other"] (defScope st_ratio) := ⟨rfl, rfl, rfl, by decide +kernel, rfl, by decide +kernel, by decide +kernel⟩
abbrev st_brought : Stmt := top 34
abbrev nm_brought : List Str := ["sizes", "found", "link", "name", "one", "other", "kind", "way", "speed"]
theorem sc_brought : FnScope nm_brought ["sizes", "found", "link"] (defScope st_brought) := ⟨rfl, rfl, rfl, by decide +kernel, rfl, by decide +kernel, by decide +kernel⟩
abbrev st_turning : Stmt := top 35
abbrev nm_turning : List Str := ["sizes", "shafts", "found", "name", "mode", "way", "links", "some", "speeds", "one", "far", "speed", "link"]
theorem sc_turning : FnScope nm_turning ["sizes", "shafts"] (defScope st_turning) := ⟨rfl, rfl, rfl, by decide +kernel, rfl, by decide +kernel, by decide +kernel⟩
abbrev st_Trainu_initu : Stmt := inClass (top 36) 0
abbrev nm_Trainu_initu : List Str := ["self", "sizes", "shafts", "names", "number", "shaft"]
theorem sc_Trainu_initu : FnScope nm_Trainu_initu ["self", "sizes", "shafts"] (defScope st_Trainu_initu) := ⟨rfl, rfl, rfl, by decide +kernel, rfl, by decide +kernel, by decide +kernel⟩
abbrev st_Train_names : Stmt := inClass (top 36) 3
abbrev nm_Train_names : List Str := ["self", "shaft"]
theorem sc_Train_names : FnScope nm_Train_names ["self"] (defScope st_Train_names) := ⟨rfl, rfl, rfl, by decide +kernel, rfl, by decide +kernel, by decide +kernel⟩
abbrev st_Train_does : Stmt := inClass (top 36) 4
abbrev nm_Train_does : List Str := ["self", "name"]
theorem sc_Train_does : FnScope nm_Train_does ["self", "name"] (defScope st_Train_does) := ⟨rfl, rfl, rfl, by decide +kernel, rfl, by decide +kernel, by decide +kernel⟩
abbrev st_Train_way : Stmt := inClass (top 36) 5
abbrev nm_Train_way : List Str := ["self", "name", "found"]
theorem sc_Train_way : FnScope nm_Train_way ["self", "name"] (defScope st_Train_way) := ⟨rfl, rfl, rfl, by decide +kernel, rfl, by decide +kernel, by decide +kernel⟩
abbrev st_Train_speed : Stmt := inClass (top 36) 6
abbrev nm_Train_speed : List Str := ["self", "name", "found"]
theorem sc_Train_speed : FnScope nm_Train_speed ["self", "name"] (defScope st_Train_speed) := ⟨rfl, rfl, rfl, by decide +kernel, rfl, by decide +kernel, by decide +kernel⟩
abbrev st_Train_only : Stmt := inClass (top 36) 7
abbrev nm_Train_only : List Str := ["self", "many"]
theorem sc_Train_only : FnScope nm_Train_only ["self", "many"] (defScope st_Train_only) := ⟨rfl, rfl, rfl, by decide +kernel, rfl, by decide +kernel, by decide +kernel⟩
abbrev st_law_begun : Stmt := top 38
abbrev nm_law_begun : List Str := ["_law_script", "_law_cell"]
theorem sc_law_begun : FnScope nm_law_begun ["_law_script"] (defScope st_law_begun) := ⟨rfl, rfl, rfl, by decide +kernel, rfl, by decide +kernel, by decide +kernel⟩
abbrev st_law_next : Stmt := top 39
abbrev nm_law_next : List Str := ["_law_m", "_law_many", "_law_at", "_law_bits", "_law_cell", "_law_blend", "_law_rest"]
theorem sc_law_next : FnScope nm_law_next ["_law_m", "_law_many"] (defScope st_law_next) := ⟨rfl, rfl, rfl, by decide +kernel, rfl, by decide +kernel, by decide +kernel⟩
abbrev st_law_names : Stmt := top 40
abbrev nm_law_names : List Str := ["_law_m", "_law_many", "_law_letters", "_law_stem", "_law_k", "_law_at", "_law_first", "_law_by_here", "_law_word"]
theorem sc_law_names : FnScope nm_law_names ["_law_m", "_law_many"] (defScope st_law_names) := ⟨rfl, rfl, rfl, by decide +kernel, rfl, by decide +kernel, by decide +kernel⟩
abbrev st_law_odd : Stmt := top 41
abbrev nm_law_odd : List Str := ["_law_m", "_law_some"]
theorem sc_law_odd : FnScope nm_law_odd ["_law_m"] (defScope st_law_odd) := ⟨rfl, rfl, rfl, by decide +kernel, rfl, by decide +kernel, by decide +kernel⟩
abbrev st_law_sizes : Stmt := top 43
abbrev nm_law_sizes : List Str := ["_law_m", "_law_most"]
theorem sc_law_sizes : FnScope nm_law_sizes ["_law_m", "_law_most"] (defScope st_law_sizes) := ⟨rfl, rfl, rfl, by decide +kernel, rfl, by decide +kernel, by decide +kernel⟩
abbrev st_law_sum : Stmt := top 46
abbrev nm_law_sum : List Str := ["_law_product_here", "_law_numbers_here", "_law_power", "_law_number"]
theorem sc_law_sum : FnScope nm_law_sum ["_law_product_here", "_law_numbers_here"] (defScope st_law_sum) := ⟨rfl, rfl, rfl, by decide +kernel, rfl, by decide +kernel, by decide +kernel⟩
abbrev st_law_weight : Stmt := top 47
abbrev nm_law_weight : List Str := ["_law_speed_here", "_law_numbers_here", "_law_found", "_law_one"]
theorem sc_law_weight : FnScope nm_law_weight ["_law_speed_here", "_law_numbers_here"] (defScope st_law_weight) := ⟨rfl, rfl, rfl, by decide +kernel, rfl, by decide +kernel, by decide +kernel⟩
abbrev st_law_numbers : Stmt := top 48
abbrev nm_law_numbers : List Str := ["_law_m", "_law_many", "_law_k"]
theorem sc_law_numbers : FnScope nm_law_numbers ["_law_m", "_law_many"] (defScope st_law_numbers) := ⟨rfl, rfl, rfl, by decide +kernel, rfl, by decide +kernel, by decide +kernel⟩
abbrev st_law_shafts : Stmt := top 49
abbrev nm_law_shafts : List Str := ["_law_m", "_law_sizes_here", "_law_most", "_law_names_here", "_law_found", "_law_k", "_law_links", "_law_n", "_law_mode", "_law_way", "_law_stem", "_law_wheels"]
theorem sc_law_shafts : FnScope nm_law_shafts ["_law_m", "_law_sizes_here", "_law_most"] (defScope st_law_shafts) := ⟨rfl, rfl, rfl, by decide +kernel, rfl, by decide +kernel, by decide +kernel⟩
abbrev st_law_by : Stmt := top 50
abbrev nm_law_by : List Str := ["_law_speed_here", "_law_product_here", "_law_one", "_law_other"]
theorem sc_law_by : FnScope nm_law_by ["_law_speed_here", "_law_product_here"] (defScope st_law_by) := ⟨rfl, rfl, rfl, by decide +kernel, rfl, by decide +kernel, by decide +kernel⟩
abbrev st_law_turning : Stmt := top 51
abbrev nm_law_turning : List Str := ["_law_sizes_here", "_law_shafts_here", "_law_found", "_law_name", "_law_mode", "_law_way", "_law_links", "_law_some", "_law_shaft", "_law_one", "_law_other", "_law_kind", "_law_good", "_law_product_here", "_law_far", "_law_size"]
theorem sc_law_turning : FnScope nm_law_turning ["_law_sizes_here", "_law_shafts_here"] (defScope st_law_turning) := ⟨rfl, rfl, rfl, by decide +kernel, rfl, by decide +kernel, by decide +kernel⟩
abbrev st_law_put_in : Stmt := top 52
abbrev nm_law_put_in : List Str := ["_law_sizes_here", "_law_shafts_here", "_law_numbers_here", "_law_found", "_law_sum_of", "_law_name", "_law_mode", "_law_way", "_law_links", "_law_some", "_law_shaft", "_law_one", "_law_other", "_law_kind", "_law_good", "_law_weights", "_law_sign", "_law_far"]
theorem sc_law_put_in : FnScope nm_law_put_in ["_law_sizes_here", "_law_shafts_here", "_law_numbers_here"] (defScope st_law_put_in) := ⟨rfl, rfl, rfl, by decide +kernel, rfl, by decide +kernel, by decide +kernel⟩
abbrev st_law_caught : Stmt := top 53
abbrev nm_law_caught : List Str := ["_law_call", "e"]
theorem sc_law_caught : FnScope nm_law_caught ["_law_call"] (defScope st_law_caught) := ⟨rfl, rfl, rfl, by decide +kernel, rfl, by decide +kernel, by decide +kernel⟩
abbrev st_law : Stmt := top 54
abbrev nm_law : List Str := ["_law_script", "_law_m", "_law_turn", "_law_sizes_here", "_law_shafts_here", "_law_train", "_law_found", "_law_name", "_law_k", "_law_first", "_law_bad", "_law_due", "_law_numbers_here", "_law_told"]
theorem sc_law : FnScope nm_law ["_law_script"] (defScope st_law) := ⟨rfl, rfl, rfl, by decide +kernel, rfl, by decide +kernel, by decide +kernel⟩
def tab : Tab where
  LE := ["BadSizes", "BadNumber", "BadTrain"]
  LI := ["Train"]
  ks := []
  L := ["BadSizes", "BadNumber", "BadTrain"]
  cs := ["CogError", "BadSizes", "BadNumber", "BadTrain"]
  sub := fun a b => decide (a = b) || (decide (b = "CogError") && !(decide (a = "Quarrel") || decide (a = "TooMany")))
  noat := [("BadSizes", "value"), ("BadNumber", "value"), ("BadTrain", "place")]
end K11
namespace K11
open PySem L2 VL KL KM KP KT SS
abbrev st_BadSizes : Stmt := inClass (top 2) 0
def er_BadSizes : ErrD := ⟨"BadSizes", .ve, "value", "BadSizes.__init__", defArgs st_BadSizes, defBody st_BadSizes, defScope st_BadSizes, P.main.file⟩
theorem st_BadSizes_ok : SupT er_BadSizes := ⟨_, _, _, _, _, _, _, _, _, _, _, _, _, _, _, rfl, rfl, rfl, rfl, rfl, by decide, rfl, rfl, rfl, rfl, by decide, by decide, fun _ _ _ _ _ _ _ _ _ _ _ _ _ => ⟨rfl, by first | kernel_rfl | (simp [bindArgs]; done)⟩⟩
abbrev st_BadNumber : Stmt := inClass (top 3) 0
def er_BadNumber : ErrD := ⟨"BadNumber", .ve, "value", "BadNumber.__init__", defArgs st_BadNumber, defBody st_BadNumber, defScope st_BadNumber, P.main.file⟩
theorem st_BadNumber_ok : SupT er_BadNumber := ⟨_, _, _, _, _, _, _, _, _, _, _, _, _, _, _, rfl, rfl, rfl, rfl, rfl, by decide, rfl, rfl, rfl, rfl, by decide, by decide, fun _ _ _ _ _ _ _ _ _ _ _ _ _ => ⟨rfl, by first | kernel_rfl | (simp [bindArgs]; done)⟩⟩
abbrev st_BadTrain : Stmt := inClass (top 4) 0
def er_BadTrain : ErrD := ⟨"BadTrain", .ve, "place", "BadTrain.__init__", defArgs st_BadTrain, defBody st_BadTrain, defScope st_BadTrain, P.main.file⟩
theorem st_BadTrain_ok : SupT er_BadTrain := ⟨_, _, _, _, _, _, _, _, _, _, _, _, _, _, _, rfl, rfl, rfl, rfl, rfl, by decide, rfl, rfl, rfl, rfl, by decide, by decide, fun _ _ _ _ _ _ _ _ _ _ _ _ _ => ⟨rfl, by first | kernel_rfl | (simp [bindArgs]; done)⟩⟩
def dd_is_word : He.DefD := ⟨("is_word", none), "is_word", "is_word", defArgs st_is_word, defBody st_is_word, defScope st_is_word, [], []⟩
def dd_is_number : He.DefD := ⟨("is_number", none), "is_number", "is_number", defArgs st_is_number, defBody st_is_number, defScope st_is_number, [], []⟩
def dd_is_among : He.DefD := ⟨("is_among", none), "is_among", "is_among", defArgs st_is_among, defBody st_is_among, defScope st_is_among, [], []⟩
def dd_need_sizes : He.DefD := ⟨("need_sizes", none), "need_sizes", "need_sizes", defArgs st_need_sizes, defBody st_need_sizes, defScope st_need_sizes, [], []⟩
def dd_added : He.DefD := ⟨("added", none), "added", "added", defArgs st_added, defBody st_added, defScope st_added, [], []⟩
def dd_times_so : He.DefD := ⟨("times_so", none), "times_so", "times_so", defArgs st_times_so, defBody st_times_so, defScope st_times_so, [], []⟩
def dd_is_kind : He.DefD := ⟨("is_kind", none), "is_kind", "is_kind", defArgs st_is_kind, defBody st_is_kind, defScope st_is_kind, [], []⟩
def dd_is_size : He.DefD := ⟨("is_size", none), "is_size", "is_size", defArgs st_is_size, defBody st_is_size, defScope st_is_size, [], []⟩
def dd_is_link : He.DefD := ⟨("is_link", none), "is_link", "is_link", defArgs st_is_link, defBody st_is_link, defScope st_is_link, [], []⟩
def dd_are_links : He.DefD := ⟨("are_links", none), "are_links", "are_links", defArgs st_are_links, defBody st_are_links, defScope st_are_links, [], []⟩
def dd_is_shaft : He.DefD := ⟨("is_shaft", none), "is_shaft", "is_shaft", defArgs st_is_shaft, defBody st_is_shaft, defScope st_is_shaft, [], []⟩
def dd_ratio : He.DefD := ⟨("ratio", none), "ratio", "ratio", defArgs st_ratio, defBody st_ratio, defScope st_ratio, [], []⟩
def dd_brought : He.DefD := ⟨("brought", none), "brought", "brought", defArgs st_brought, defBody st_brought, defScope st_brought, [], []⟩
def dd_turning : He.DefD := ⟨("turning", none), "turning", "turning", defArgs st_turning, defBody st_turning, defScope st_turning, [], []⟩
def dd_Trainu_initu : He.DefD := ⟨("Train", some "__init__"), "__init__", "Train.__init__", defArgs st_Trainu_initu, defBody st_Trainu_initu, defScope st_Trainu_initu, [], []⟩
def dd_Train_names : He.DefD := ⟨("Train", some "names"), "names", "Train.names", defArgs st_Train_names, defBody st_Train_names, defScope st_Train_names, [], []⟩
def dd_Train_does : He.DefD := ⟨("Train", some "does"), "does", "Train.does", defArgs st_Train_does, defBody st_Train_does, defScope st_Train_does, [], []⟩
def dd_Train_way : He.DefD := ⟨("Train", some "way"), "way", "Train.way", defArgs st_Train_way, defBody st_Train_way, defScope st_Train_way, [], []⟩
def dd_Train_speed : He.DefD := ⟨("Train", some "speed"), "speed", "Train.speed", defArgs st_Train_speed, defBody st_Train_speed, defScope st_Train_speed, [], []⟩
def dd_Train_only : He.DefD := ⟨("Train", some "only"), "only", "Train.only", defArgs st_Train_only, defBody st_Train_only, defScope st_Train_only, [], []⟩
def dd_law_begun : He.DefD := ⟨("_law_begun", none), "_law_begun", "_law_begun", defArgs st_law_begun, defBody st_law_begun, defScope st_law_begun, [], []⟩
def dd_law_next : He.DefD := ⟨("_law_next", none), "_law_next", "_law_next", defArgs st_law_next, defBody st_law_next, defScope st_law_next, [], []⟩
def dd_law_names : He.DefD := ⟨("_law_names", none), "_law_names", "_law_names", defArgs st_law_names, defBody st_law_names, defScope st_law_names, [], []⟩
def dd_law_odd : He.DefD := ⟨("_law_odd", none), "_law_odd", "_law_odd", defArgs st_law_odd, defBody st_law_odd, defScope st_law_odd, [], []⟩
def dd_law_sizes : He.DefD := ⟨("_law_sizes", none), "_law_sizes", "_law_sizes", defArgs st_law_sizes, defBody st_law_sizes, defScope st_law_sizes, [], []⟩
def dd_law_sum : He.DefD := ⟨("_law_sum", none), "_law_sum", "_law_sum", defArgs st_law_sum, defBody st_law_sum, defScope st_law_sum, [], []⟩
def dd_law_weight : He.DefD := ⟨("_law_weight", none), "_law_weight", "_law_weight", defArgs st_law_weight, defBody st_law_weight, defScope st_law_weight, [], []⟩
def dd_law_numbers : He.DefD := ⟨("_law_numbers", none), "_law_numbers", "_law_numbers", defArgs st_law_numbers, defBody st_law_numbers, defScope st_law_numbers, [], []⟩
def dd_law_shafts : He.DefD := ⟨("_law_shafts", none), "_law_shafts", "_law_shafts", defArgs st_law_shafts, defBody st_law_shafts, defScope st_law_shafts, [], []⟩
def dd_law_by : He.DefD := ⟨("_law_by", none), "_law_by", "_law_by", defArgs st_law_by, defBody st_law_by, defScope st_law_by, [], []⟩
def dd_law_turning : He.DefD := ⟨("_law_turning", none), "_law_turning", "_law_turning", defArgs st_law_turning, defBody st_law_turning, defScope st_law_turning, [], []⟩
def dd_law_put_in : He.DefD := ⟨("_law_put_in", none), "_law_put_in", "_law_put_in", defArgs st_law_put_in, defBody st_law_put_in, defScope st_law_put_in, [], []⟩
def dd_law_caught : He.DefD := ⟨("_law_caught", none), "_law_caught", "_law_caught", defArgs st_law_caught, defBody st_law_caught, defScope st_law_caught, [], []⟩
def dd_law : He.DefD := ⟨("law", none), "law", "law", defArgs st_law, defBody st_law, defScope st_law, [], []⟩
def fa : List He.Fa := [.free "len", .free "int", .free "all", .free "sum", .free "tuple", .free "list", .free "sorted", .free "repr", .free "min", .free "abs", .free "isinstance", .free "str", .free "bool", .free "range", .free "zip", .free "enumerate", .free "super", .free "any", .free "set", .free "max", .free "dict", .int "MOST_SIZES" 5, .int "MOST_LETTERS" 8, .str "LETTERS" "abcdefghijklmnopqrstuvwxyz", .str "PRODUCT" "product", .str "GREATEST" "greatest", .str "LEAST" "least", .str "HAND" "hand", .str "FIXED" "fixed", .str "FAST" "fast", .str "SLOW" "slow", .str "BAND" "band", .int "MOST_SHAFTS" 8, .int "MOST_LINKS" 3, .glo "KINDS", .cls "Train", .noat "Train" "sizes", .noat "Train" "shafts", .glo "Train", .glo "CogError", .glo "BadSizes", .glo "BadNumber", .glo "BadTrain", .glo "is_word", .glo "is_number", .glo "is_among", .glo "need_sizes", .glo "added", .glo "times_so", .glo "is_kind", .glo "is_size", .glo "is_link", .glo "are_links", .glo "is_shaft", .glo "ratio", .glo "brought", .glo "turning", .mkr "Train", .meth "Train" "names", .meth "Train" "does", .meth "Train" "way", .meth "Train" "speed", .meth "Train" "only", .glo "_law_begun", .glo "_law_next", .glo "_law_names", .glo "_law_odd", .glo "_law_sizes", .glo "_law_sum", .glo "_law_weight", .glo "_law_numbers", .glo "_law_shafts", .glo "_law_by", .glo "_law_turning", .glo "_law_put_in", .glo "_law_caught", .glo "law"]
def fn : List He.DefD := [dd_is_word, dd_is_number, dd_is_among, dd_need_sizes, dd_added, dd_times_so, dd_is_kind, dd_is_size, dd_is_link, dd_are_links, dd_is_shaft, dd_ratio, dd_brought, dd_turning, dd_Trainu_initu, dd_Train_names, dd_Train_does, dd_Train_way, dd_Train_speed, dd_Train_only, dd_law_begun, dd_law_next, dd_law_names, dd_law_odd, dd_law_sizes, dd_law_sum, dd_law_weight, dd_law_numbers, dd_law_shafts, dd_law_by, dd_law_turning, dd_law_put_in, dd_law_caught, dd_law]
def er : List ErrD := [er_BadSizes, er_BadNumber, er_BadTrain]
def okK (K : PySem.W.Frag) : Bool := tab.ok K && (tupB K ((fun K => He.ga K "KINDS") K) [.str "band", .str "cross", .str "mesh"] && (true))
structure Tx (K : PySem.W.Frag) (mg : Str → Option Value) (base : Heap) : Prop where
  c : SaysX fa fn er okK K
  h : ∃ h : Heap, K.In h ∧ h.Ns mainGlobals mg
  ta : ∃ h : Heap, TabsAt h K
  TB : ∀ p ∈ csOf K, LamX.TabB base mg p.1 p.2
section
variable {w : World} {K : PySem.W.Frag} {mg : Str → Option Value} {base : Heap}
noncomputable def Tx.hp (T : Tx K mg base) : Heap := Classical.choose T.h
theorem Tx.X (T : Tx K mg base) : K.In T.hp := (Classical.choose_spec T.h).1
theorem Tx.G (T : Tx K mg base) : T.hp.Ns mainGlobals mg := (Classical.choose_spec T.h).2
theorem Tx.tok (T : Tx K mg base) : tab.ok K = true := (He.ba T.c.all.2.2.2.2).1
theorem Tx.sys (T : Tx K mg base) : SysK K := T.c.sys
theorem Tx.subs (T : Tx K mg base) {cs' : List Str} (hs : ∀ c ∈ cs', c ∈ tab.cs) : SubF K tab.L tab.sub cs' := Tab.subs T.tok hs
theorem Tx.f_len (T : Tx K mg base) : mg "len" = none := He.free_ok T.X T.G (T.c.fact 0 (f := .free "len") rfl)
theorem Tx.f_int (T : Tx K mg base) : mg "int" = none := He.free_ok T.X T.G (T.c.fact 1 (f := .free "int") rfl)
theorem Tx.f_all (T : Tx K mg base) : mg "all" = none := He.free_ok T.X T.G (T.c.fact 2 (f := .free "all") rfl)
theorem Tx.f_sum (T : Tx K mg base) : mg "sum" = none := He.free_ok T.X T.G (T.c.fact 3 (f := .free "sum") rfl)
theorem Tx.f_tuple (T : Tx K mg base) : mg "tuple" = none := He.free_ok T.X T.G (T.c.fact 4 (f := .free "tuple") rfl)
theorem Tx.f_list (T : Tx K mg base) : mg "list" = none := He.free_ok T.X T.G (T.c.fact 5 (f := .free "list") rfl)
theorem Tx.f_sorted (T : Tx K mg base) : mg "sorted" = none := He.free_ok T.X T.G (T.c.fact 6 (f := .free "sorted") rfl)
theorem Tx.f_repr (T : Tx K mg base) : mg "repr" = none := He.free_ok T.X T.G (T.c.fact 7 (f := .free "repr") rfl)
theorem Tx.f_min (T : Tx K mg base) : mg "min" = none := He.free_ok T.X T.G (T.c.fact 8 (f := .free "min") rfl)
theorem Tx.f_isinstance (T : Tx K mg base) : mg "isinstance" = none := He.free_ok T.X T.G (T.c.fact 10 (f := .free "isinstance") rfl)
theorem Tx.f_str (T : Tx K mg base) : mg "str" = none := He.free_ok T.X T.G (T.c.fact 11 (f := .free "str") rfl)
theorem Tx.f_bool (T : Tx K mg base) : mg "bool" = none := He.free_ok T.X T.G (T.c.fact 12 (f := .free "bool") rfl)
theorem Tx.f_range (T : Tx K mg base) : mg "range" = none := He.free_ok T.X T.G (T.c.fact 13 (f := .free "range") rfl)
theorem Tx.f_zip (T : Tx K mg base) : mg "zip" = none := He.free_ok T.X T.G (T.c.fact 14 (f := .free "zip") rfl)
theorem Tx.f_enumerate (T : Tx K mg base) : mg "enumerate" = none := He.free_ok T.X T.G (T.c.fact 15 (f := .free "enumerate") rfl)
theorem Tx.f_super (T : Tx K mg base) : mg "super" = none := He.free_ok T.X T.G (T.c.fact 16 (f := .free "super") rfl)
theorem Tx.f_max (T : Tx K mg base) : mg "max" = none := He.free_ok T.X T.G (T.c.fact 19 (f := .free "max") rfl)
theorem Tx.f_dict (T : Tx K mg base) : mg "dict" = none := He.free_ok T.X T.G (T.c.fact 20 (f := .free "dict") rfl)
theorem Tx.g_MOST_SIZES (T : Tx K mg base) : ∃ u, mg "MOST_SIZES" = some u ∧ RelV (.int 5) u := by
  obtain ⟨t, e⟩ := He.int_ok T.X T.G (T.c.fact 21 (f := .int "MOST_SIZES" 5) rfl)
  exact ⟨_, e, t, rfl⟩
theorem Tx.g_MOST_LETTERS (T : Tx K mg base) : ∃ u, mg "MOST_LETTERS" = some u ∧ RelV (.int 8) u := by
  obtain ⟨t, e⟩ := He.int_ok T.X T.G (T.c.fact 22 (f := .int "MOST_LETTERS" 8) rfl)
  exact ⟨_, e, t, rfl⟩
theorem Tx.g_LETTERS (T : Tx K mg base) : ∃ u, mg "LETTERS" = some u ∧ RelV (.str "abcdefghijklmnopqrstuvwxyz") u := by
  obtain ⟨t, e⟩ := He.str_ok T.X T.G (T.c.fact 23 (f := .str "LETTERS" "abcdefghijklmnopqrstuvwxyz") rfl)
  exact ⟨_, e, t, rfl⟩
theorem Tx.g_PRODUCT (T : Tx K mg base) : ∃ u, mg "PRODUCT" = some u ∧ RelV (.str "product") u := by
  obtain ⟨t, e⟩ := He.str_ok T.X T.G (T.c.fact 24 (f := .str "PRODUCT" "product") rfl)
  exact ⟨_, e, t, rfl⟩
theorem Tx.g_GREATEST (T : Tx K mg base) : ∃ u, mg "GREATEST" = some u ∧ RelV (.str "greatest") u := by
  obtain ⟨t, e⟩ := He.str_ok T.X T.G (T.c.fact 25 (f := .str "GREATEST" "greatest") rfl)
  exact ⟨_, e, t, rfl⟩
theorem Tx.g_LEAST (T : Tx K mg base) : ∃ u, mg "LEAST" = some u ∧ RelV (.str "least") u := by
  obtain ⟨t, e⟩ := He.str_ok T.X T.G (T.c.fact 26 (f := .str "LEAST" "least") rfl)
  exact ⟨_, e, t, rfl⟩
theorem Tx.g_HAND (T : Tx K mg base) : ∃ u, mg "HAND" = some u ∧ RelV (.str "hand") u := by
  obtain ⟨t, e⟩ := He.str_ok T.X T.G (T.c.fact 27 (f := .str "HAND" "hand") rfl)
  exact ⟨_, e, t, rfl⟩
theorem Tx.g_FIXED (T : Tx K mg base) : ∃ u, mg "FIXED" = some u ∧ RelV (.str "fixed") u := by
  obtain ⟨t, e⟩ := He.str_ok T.X T.G (T.c.fact 28 (f := .str "FIXED" "fixed") rfl)
  exact ⟨_, e, t, rfl⟩
theorem Tx.g_FAST (T : Tx K mg base) : ∃ u, mg "FAST" = some u ∧ RelV (.str "fast") u := by
  obtain ⟨t, e⟩ := He.str_ok T.X T.G (T.c.fact 29 (f := .str "FAST" "fast") rfl)
  exact ⟨_, e, t, rfl⟩
theorem Tx.g_SLOW (T : Tx K mg base) : ∃ u, mg "SLOW" = some u ∧ RelV (.str "slow") u := by
  obtain ⟨t, e⟩ := He.str_ok T.X T.G (T.c.fact 30 (f := .str "SLOW" "slow") rfl)
  exact ⟨_, e, t, rfl⟩
theorem Tx.g_BAND (T : Tx K mg base) : ∃ u, mg "BAND" = some u ∧ RelV (.str "band") u := by
  obtain ⟨t, e⟩ := He.str_ok T.X T.G (T.c.fact 31 (f := .str "BAND" "band") rfl)
  exact ⟨_, e, t, rfl⟩
theorem Tx.g_MOST_SHAFTS (T : Tx K mg base) : ∃ u, mg "MOST_SHAFTS" = some u ∧ RelV (.int 8) u := by
  obtain ⟨t, e⟩ := He.int_ok T.X T.G (T.c.fact 32 (f := .int "MOST_SHAFTS" 8) rfl)
  exact ⟨_, e, t, rfl⟩
theorem Tx.g_MOST_LINKS (T : Tx K mg base) : ∃ u, mg "MOST_LINKS" = some u ∧ RelV (.int 3) u := by
  obtain ⟨t, e⟩ := He.int_ok T.X T.G (T.c.fact 33 (f := .int "MOST_LINKS" 3) rfl)
  exact ⟨_, e, t, rfl⟩
theorem Tx.g_KINDS (T : Tx K mg base) : ∃ u, mg "KINDS" = some u ∧ RelV (.ref (He.ga K "KINDS")) u := ⟨_, He.glo_ok T.X T.G (T.c.fact 34 (f := .glo "KINDS") rfl), rfl⟩
theorem Tx.c_Train (T : Tx K mg base) : ClsI K "Train" ["sizes", "shafts"] := ⟨He.cls_ok (T.c.fact 35 (f := .cls "Train") rfl), fun f hf => by
  simp only [List.mem_cons, List.not_mem_nil, or_false] at hf
  rcases hf with rfl | rfl
  · exact He.noat_ok (T.c.fact 36 (f := .noat "Train" "sizes") rfl)
  · exact He.noat_ok (T.c.fact 37 (f := .noat "Train" "shafts") rfl)⟩
theorem Tx.m_Train (T : Tx K mg base) : mg "Train" = some (.ref (He.ga K "Train")) := He.glo_ok T.X T.G (T.c.fact 38 (f := .glo "Train") rfl)
theorem Tx.m_BadSizes (T : Tx K mg base) : mg "BadSizes" = some (.ref (He.ga K "BadSizes")) := He.glo_ok T.X T.G (T.c.fact 40 (f := .glo "BadSizes") rfl)
theorem Tx.s_BadSizes (T : Tx K mg base) : SupF P K (He.ga K "BadSizes") (He.fAd K er_BadSizes.at_) "value" er_BadSizes.b.B er_BadSizes.b.nw er_BadSizes.b.ini er_BadSizes.b.tl ∧ XfC K (He.ga K "BadSizes") := T.c.err 0 (e := er_BadSizes) rfl st_BadSizes_ok (beq_self_eq_true _) rfl
theorem Tx.m_BadNumber (T : Tx K mg base) : mg "BadNumber" = some (.ref (He.ga K "BadNumber")) := He.glo_ok T.X T.G (T.c.fact 41 (f := .glo "BadNumber") rfl)
theorem Tx.s_BadNumber (T : Tx K mg base) : SupF P K (He.ga K "BadNumber") (He.fAd K er_BadNumber.at_) "value" er_BadNumber.b.B er_BadNumber.b.nw er_BadNumber.b.ini er_BadNumber.b.tl ∧ XfC K (He.ga K "BadNumber") := T.c.err 1 (e := er_BadNumber) rfl st_BadNumber_ok (beq_self_eq_true _) rfl
theorem Tx.m_BadTrain (T : Tx K mg base) : mg "BadTrain" = some (.ref (He.ga K "BadTrain")) := He.glo_ok T.X T.G (T.c.fact 42 (f := .glo "BadTrain") rfl)
theorem Tx.s_BadTrain (T : Tx K mg base) : SupF P K (He.ga K "BadTrain") (He.fAd K er_BadTrain.at_) "place" er_BadTrain.b.B er_BadTrain.b.nw er_BadTrain.b.ini er_BadTrain.b.tl ∧ XfC K (He.ga K "BadTrain") := T.c.err 2 (e := er_BadTrain) rfl st_BadTrain_ok (beq_self_eq_true _) rfl
theorem Tx.xf_value (T : Tx K mg base) : ∀ C ∈ (["BadSizes", "BadNumber"] : List Str), XfC K (He.ga K C) := fun C hC => by
  simp only [List.mem_cons, List.not_mem_nil, or_false] at hC
  rcases hC with rfl | rfl
  · exact T.s_BadSizes.2
  · exact T.s_BadNumber.2
theorem Tx.xn_value (T : Tx K mg base) : ∀ C ∈ (["BadSizes", "BadNumber"] : List Str), PySem.W.findIn K (.ref (He.ga K C)) "value" = some none := fun C hC => Tab.no T.tok C "value" (by
  simp only [List.mem_cons, List.not_mem_nil, or_false] at hC
  rcases hC with rfl | rfl <;> decide)
theorem Tx.m_is_word (T : Tx K mg base) : mg "is_word" = some (.ref (He.fAd K ("is_word", none))) := He.glo_ok T.X T.G (T.c.fact 43 (f := .glo "is_word") rfl)
theorem Tx.m_is_number (T : Tx K mg base) : mg "is_number" = some (.ref (He.fAd K ("is_number", none))) := He.glo_ok T.X T.G (T.c.fact 44 (f := .glo "is_number") rfl)
theorem Tx.m_is_among (T : Tx K mg base) : mg "is_among" = some (.ref (He.fAd K ("is_among", none))) := He.glo_ok T.X T.G (T.c.fact 45 (f := .glo "is_among") rfl)
theorem Tx.m_need_sizes (T : Tx K mg base) : mg "need_sizes" = some (.ref (He.fAd K ("need_sizes", none))) := He.glo_ok T.X T.G (T.c.fact 46 (f := .glo "need_sizes") rfl)
theorem Tx.m_added (T : Tx K mg base) : mg "added" = some (.ref (He.fAd K ("added", none))) := He.glo_ok T.X T.G (T.c.fact 47 (f := .glo "added") rfl)
theorem Tx.m_times_so (T : Tx K mg base) : mg "times_so" = some (.ref (He.fAd K ("times_so", none))) := He.glo_ok T.X T.G (T.c.fact 48 (f := .glo "times_so") rfl)
theorem Tx.m_is_kind (T : Tx K mg base) : mg "is_kind" = some (.ref (He.fAd K ("is_kind", none))) := He.glo_ok T.X T.G (T.c.fact 49 (f := .glo "is_kind") rfl)
theorem Tx.m_is_size (T : Tx K mg base) : mg "is_size" = some (.ref (He.fAd K ("is_size", none))) := He.glo_ok T.X T.G (T.c.fact 50 (f := .glo "is_size") rfl)
theorem Tx.m_is_link (T : Tx K mg base) : mg "is_link" = some (.ref (He.fAd K ("is_link", none))) := He.glo_ok T.X T.G (T.c.fact 51 (f := .glo "is_link") rfl)
theorem Tx.m_are_links (T : Tx K mg base) : mg "are_links" = some (.ref (He.fAd K ("are_links", none))) := He.glo_ok T.X T.G (T.c.fact 52 (f := .glo "are_links") rfl)
theorem Tx.m_is_shaft (T : Tx K mg base) : mg "is_shaft" = some (.ref (He.fAd K ("is_shaft", none))) := He.glo_ok T.X T.G (T.c.fact 53 (f := .glo "is_shaft") rfl)
theorem Tx.m_ratio (T : Tx K mg base) : mg "ratio" = some (.ref (He.fAd K ("ratio", none))) := He.glo_ok T.X T.G (T.c.fact 54 (f := .glo "ratio") rfl)
theorem Tx.m_brought (T : Tx K mg base) : mg "brought" = some (.ref (He.fAd K ("brought", none))) := He.glo_ok T.X T.G (T.c.fact 55 (f := .glo "brought") rfl)
theorem Tx.m_turning (T : Tx K mg base) : mg "turning" = some (.ref (He.fAd K ("turning", none))) := He.glo_ok T.X T.G (T.c.fact 56 (f := .glo "turning") rfl)
theorem Tx.m_Trainu_initu (T : Tx K mg base) : Mk K (He.ga K "Train") (He.fAd K ("Train", some "__init__")) := He.mkr_ok (T.c.fact 57 (f := .mkr "Train") rfl)
theorem Tx.m_Train_names (T : Tx K mg base) : Meth K (He.ga K "Train") "names" (He.fAd K ("Train", some "names")) := He.meth_ok (T.c.fact 58 (f := .meth "Train" "names") rfl)
theorem Tx.m_Train_does (T : Tx K mg base) : Meth K (He.ga K "Train") "does" (He.fAd K ("Train", some "does")) := He.meth_ok (T.c.fact 59 (f := .meth "Train" "does") rfl)
theorem Tx.m_Train_way (T : Tx K mg base) : Meth K (He.ga K "Train") "way" (He.fAd K ("Train", some "way")) := He.meth_ok (T.c.fact 60 (f := .meth "Train" "way") rfl)
theorem Tx.m_Train_speed (T : Tx K mg base) : Meth K (He.ga K "Train") "speed" (He.fAd K ("Train", some "speed")) := He.meth_ok (T.c.fact 61 (f := .meth "Train" "speed") rfl)
theorem Tx.m_Train_only (T : Tx K mg base) : Meth K (He.ga K "Train") "only" (He.fAd K ("Train", some "only")) := He.meth_ok (T.c.fact 62 (f := .meth "Train" "only") rfl)
theorem Tx.m_law_begun (T : Tx K mg base) : mg "_law_begun" = some (.ref (He.fAd K ("_law_begun", none))) := He.glo_ok T.X T.G (T.c.fact 63 (f := .glo "_law_begun") rfl)
theorem Tx.m_law_next (T : Tx K mg base) : mg "_law_next" = some (.ref (He.fAd K ("_law_next", none))) := He.glo_ok T.X T.G (T.c.fact 64 (f := .glo "_law_next") rfl)
theorem Tx.m_law_names (T : Tx K mg base) : mg "_law_names" = some (.ref (He.fAd K ("_law_names", none))) := He.glo_ok T.X T.G (T.c.fact 65 (f := .glo "_law_names") rfl)
theorem Tx.m_law_odd (T : Tx K mg base) : mg "_law_odd" = some (.ref (He.fAd K ("_law_odd", none))) := He.glo_ok T.X T.G (T.c.fact 66 (f := .glo "_law_odd") rfl)
theorem Tx.m_law_sizes (T : Tx K mg base) : mg "_law_sizes" = some (.ref (He.fAd K ("_law_sizes", none))) := He.glo_ok T.X T.G (T.c.fact 67 (f := .glo "_law_sizes") rfl)
theorem Tx.m_law_sum (T : Tx K mg base) : mg "_law_sum" = some (.ref (He.fAd K ("_law_sum", none))) := He.glo_ok T.X T.G (T.c.fact 68 (f := .glo "_law_sum") rfl)
theorem Tx.m_law_weight (T : Tx K mg base) : mg "_law_weight" = some (.ref (He.fAd K ("_law_weight", none))) := He.glo_ok T.X T.G (T.c.fact 69 (f := .glo "_law_weight") rfl)
theorem Tx.m_law_numbers (T : Tx K mg base) : mg "_law_numbers" = some (.ref (He.fAd K ("_law_numbers", none))) := He.glo_ok T.X T.G (T.c.fact 70 (f := .glo "_law_numbers") rfl)
theorem Tx.m_law_shafts (T : Tx K mg base) : mg "_law_shafts" = some (.ref (He.fAd K ("_law_shafts", none))) := He.glo_ok T.X T.G (T.c.fact 71 (f := .glo "_law_shafts") rfl)
theorem Tx.m_law_by (T : Tx K mg base) : mg "_law_by" = some (.ref (He.fAd K ("_law_by", none))) := He.glo_ok T.X T.G (T.c.fact 72 (f := .glo "_law_by") rfl)
theorem Tx.m_law_turning (T : Tx K mg base) : mg "_law_turning" = some (.ref (He.fAd K ("_law_turning", none))) := He.glo_ok T.X T.G (T.c.fact 73 (f := .glo "_law_turning") rfl)
theorem Tx.m_law_put_in (T : Tx K mg base) : mg "_law_put_in" = some (.ref (He.fAd K ("_law_put_in", none))) := He.glo_ok T.X T.G (T.c.fact 74 (f := .glo "_law_put_in") rfl)
theorem Tx.m_law_caught (T : Tx K mg base) : mg "_law_caught" = some (.ref (He.fAd K ("_law_caught", none))) := He.glo_ok T.X T.G (T.c.fact 75 (f := .glo "_law_caught") rfl)
theorem Tx.t_KINDS (T : Tx K mg base) : ∀ g : Gh, DV K g (.tup [.str "band", .str "cross", .str "mesh"]) (.ref ((fun K => He.ga K "KINDS") K)) := fun g => DV.t (tupB_ok (He.ba (He.ba T.c.all.2.2.2.2).2).1) (DVs.strs (ns := ["band", "cross", "mesh"]))
end
end K11
namespace K11
open PySem PySem.Spec PyProof.Rows L2 KL KM KP KT SS
abbrev R : PySem.W.OpenRow := PySem.W.OpenLaw.row PySem.Challenge.rw_anycogs_k11_whole_turning_shafts
abbrev hk : PySem.W.Hook := VL.hookL (List.range 1000) fa fn er okK
def ob (s : PySem.W.SharedT) : VL.AlT := VL.obsTL (List.range 1000) fa fn er okK (HandSHeadRun.getT s)
theorem ob_eq (s : PySem.W.SharedT) : ob s = hk.obs s.abs := VL.obsTL_eq (HandSHeadRun.getT_eq s)
def loose0 : List Str := ["_wall", "__name__", "CogError", "BadSizes", "BadNumber", "BadTrain", "MOST_SIZES", "MOST_LETTERS"]
def loose1 : List Str := ["LETTERS", "is_word", "is_number", "is_among", "need_sizes", "added", "PRODUCT", "GREATEST"]
def loose2 : List Str := ["LEAST", "times_so", "HAND", "FIXED", "FAST", "SLOW", "BAND", "KINDS"]
def loose3 : List Str := ["MOST_SHAFTS", "MOST_LINKS", "is_kind", "is_size", "is_link", "are_links", "is_shaft", "ratio"]
def loose4 : List Str := ["brought", "turning", "Train", "_law_begun", "_law_next", "_law_names", "_law_odd", "_law_bent"]
def loose5 : List Str := ["_law_sizes", "_law_product", "_law_speed", "_law_sum", "_law_weight", "_law_numbers", "_law_shafts", "_law_by"]
def loose6 : List Str := ["_law_turning", "_law_put_in", "_law_caught"]
def loose : List Str := loose0 ++ loose1 ++ loose2 ++ loose3 ++ loose4 ++ loose5 ++ loose6
abbrev vw : Program := PySem.W.view R.prog [54]
abbrev Kof (s : PySem.W.SharedT) : PySem.W.Frag := VL.frLT (List.range 1000) (HandSHeadRun.getT s)
theorem runB (w : World) (os : PySem.OsState) : (HandSHeadRun.endF (HandSHeadRun.stepQ (HandSHeadRun.denQ HandSHeadRun.tabQ) R.prog w) 7000 R.prog w os).map (fun s => (HandSHeadRun.looksF R.prog (PySem.W.boot_heap w.params) s.abs, HandSHeadRun.seenQ vw loose (importedModules R.prog.main.body) (fun s => PySem.W.xlAt vw [] s && PySem.W.recOk R.toRowW.records s) s.abs)) = some (true, PySem.W.openGood vw loose) := by
  kernel_rfl
theorem run1 (w : World) (os : PySem.OsState) : (HandSHeadRun.endF (HandSHeadRun.stepQ (HandSHeadRun.denQ HandSHeadRun.tabQ) R.prog w) 7000 R.prog w os).map (fun s => (fa.all fun f => f.ok (Kof s)) && (fn.all fun d => d.ok (Kof s))) = some true := by
  kernel_rfl
theorem run2 (w : World) (os : PySem.OsState) : (HandSHeadRun.endF (HandSHeadRun.stepQ (HandSHeadRun.denQ HandSHeadRun.tabQ) R.prog w) 7000 R.prog w os).map (fun s => ((er.all fun e => e.ok (Kof s)) && (VL.sysB (Kof s) && okK (Kof s)), fn.map (fun d => He.fnW (Kof s) d.at_), er.map (fun e => VL.erW (Kof s) e), VL.tabsB (HandSHeadRun.getT s) (Kof s))) = some (true, fn.map He.DefD.val, er.map VL.ErrD.val, true) := by
  kernel_rfl
theorem run (w : World) : HandSHeadRun.RunEq R vw hk ob 7000 loose w := fun os =>
  VL.run_parts (K := Kof) (tb := fun s => VL.tabsB (HandSHeadRun.getT s) (Kof s)) (runB w os) (run1 w os) (run2 w os)
end K11
namespace SX
def sm : Nat → (Nat → Int) → Int
  | 0, _ => 0
  | n + 1, f => sm n f + f n
/-- i, but for k -/
def sk (k i : Nat) : Nat := if i < k then i else i + 1
/-- the sign -/
def sg (k : Nat) : Int := if k % 2 = 0 then 1 else -1
abbrev Vs := Nat → Nat → Int
def skip (k : Nat) (f : Vs) : Vs := fun i => f (sk k i)
def put (f : Vs) (i : Nat) (v : Nat → Int) : Vs := fun j => if j = i then v else f j
/-- the determinant of the vectors 0 .. m - 1, with the coordinates 0 .. m - 1 -/
def D : Nat → Vs → Int
  | 0, _ => 1
  | m + 1, f => sm (m + 1) fun k => sg k * (f k m * D m (skip k f))
def ins (k : Nat) (a : Nat → Int) (f : Vs) : Vs := fun i => if i < k then f i else if i = k then a else f (i - 1)
def un (k : Nat) : Nat → Int := fun x => if x = k then 1 else 0
def E (m : Nat) (f : Vs) : Int := D m un * D m f
end SX
namespace SX
structure Pr where
  m : Nat
  n : Nat
  col : Nat → Nat → Int
def up (b : Nat → Nat) (r c : Nat) : Nat → Nat := fun w => if w = r then c else b w
section
variable (p : Pr)
def Pr.c (j : Nat) : Nat → Int := if j < p.n then p.col j else un (j - p.n)
/-- the wanted sums -/
def Pr.be : Nat → Int := un (p.m - 1)
def Pr.bs (b : Nat → Nat) : Vs := fun w => p.c (b w)
def Pr.d (b : Nat → Nat) : Int := E p.m (p.bs b)
def Pr.T (b : Nat → Nat) (w : Nat) (v : Nat → Int) : Int := E p.m (put (p.bs b) w v)
def Pr.cs (j : Nat) : Int := if j < p.n then 0 else 1
/-- the cost of a column v, of its own g -/
def Pr.z (b : Nat → Nat) (g : Int) (v : Nat → Int) : Int := p.d b * g - sm p.m fun w => p.cs (b w) * p.T b w v
structure Ok (b : Nat → Nat) : Prop where
  d : 0 < p.d b
  t : ∀ w, w < p.m → 0 ≤ p.T b w p.be
  l : ∀ w, w < p.m → b w < p.n + p.m
/-- an exchange: the first column whose cost is below 0; the first wish that is met -/
structure Stp (b : Nat → Nat) (c r : Nat) : Prop where
  hc : c < p.n
  hz : p.z b 0 (p.c c) < 0
  hm : ∀ j, j < c → 0 ≤ p.z b 0 (p.c j)
  hr : r < p.m
  hp : 0 < p.T b r (p.c c)
  hq : ∀ i, i < p.m → 0 < p.T b i (p.c c) → p.T b r p.be * p.T b i (p.c c) < p.T b i p.be * p.T b r (p.c c) ∨ (p.T b r p.be * p.T b i (p.c c) = p.T b i p.be * p.T b r (p.c c) ∧ b r ≤ b i)
end
end SX
namespace SX
structure Sq (p : Pr) (s : Nat → Nat → Nat) (e r : Nat → Nat) (i j : Nat) : Prop where
  ok : ∀ k, i ≤ k → k ≤ j → Ok p (s k)
  st : ∀ k, i ≤ k → k < j → Stp p (s k) (e k) (r k)
  up : ∀ k, i ≤ k → k < j → s (k + 1) = up (s k) (r k) (e k)
section
variable {p : Pr} {s : Nat → Nat → Nat} {e r : Nat → Nat} {i j : Nat}
theorem Sq.sub (q : Sq p s e r i j) {a b : Nat} (ha : i ≤ a) (hb : b ≤ j) : Sq p s e r a b := ⟨fun k h1 h2 => q.ok k (by omega) (by omega), fun k h1 h2 => q.st k (by omega) (by omega), fun k h1 h2 => q.up k (by omega) (by omega)⟩
/-- quotients -/
theorem quo_le {a b c d x y : Int} (hb : 0 < b) (hd : 0 < d) (hy : 0 < y) (h1 : a * d ≤ c * b) (h2 : c * y ≤ x * d) : a * y ≤ x * b := by
  have e1 : a * d * y ≤ c * b * y := Int.mul_le_mul_of_nonneg_right h1 (by omega)
  have e2 : c * y * b ≤ x * d * b := Int.mul_le_mul_of_nonneg_right h2 (by omega)
  have e3 : d * (a * y) ≤ d * (x * b) := by
    have t1 : d * (a * y) = a * d * y := by grind
    have t2 : d * (x * b) = x * d * b := by grind
    have t3 : c * b * y = c * y * b := by grind
    omega
  exact Int.le_of_mul_le_mul_left e3 hd
end
/-- a base as a number -/
def code (B : Nat) (b : Nat → Nat) : Nat → Nat
  | 0 => 0
  | m + 1 => code B b m * B + b m
end SX
namespace SX
def dotL (xs ys : List Int) : Int := ((xs.zip ys).map fun q => q.1 * q.2).sum
end SX
namespace SX
def chg (row mid : List Int) (c : Nat) (sc : Int) : List Int := (row.zip mid).map fun q => (q.1 * mid.getD c 0 - q.2 * row.getD c 0) / sc
end SX
namespace KL
open PySem L2 VL
abbrev TI (ns : List Int) : D := .tup (ns.map .int)
abbrev LI (ns : List Int) : D := .lst (ns.map .int)
end KL
namespace KL
open PySem L2 VL
end KL
namespace KL
open PySem L2 VL
theorem ite_b {c : Bool} {a b : Prop} (ha : c = true → a) (hb : c = false → b) : if c = true then a else b := by
  cases c with
  | true => exact ha rfl
  | false => exact hb rfl
theorem atI_nat {α : Type} {xs : List α} {i : Nat} (h : i < xs.length) : atI xs (i : Int) = some xs[i] := by
  unfold atI ixN
  rw [if_pos (by omega), if_pos (by omega)]
  simp [h]
theorem zipI_map {xs ys : List Int} : (xs.map D.int).zip (ys.map D.int) = (xs.zip ys).map fun q => (D.int q.1, D.int q.2) := by
  rw [List.zip_map]
  rfl
end KL
namespace KL
open PySem L2 VL
theorem rng_len (lo : Int) (k : Nat) : (rng lo k).length = k := by simp [rng]
end KL
namespace KL
open PySem L2 VL
theorem mr_drop {α : Type} {n k : Nat} {f : Nat → α} (h : k < n) : ((List.range n).map f).drop k = f k :: ((List.range n).map f).drop (k + 1) := by
  rw [List.drop_eq_getElem_cons (by simpa using h)]
  congr 1
  simp
theorem mr_end {α : Type} {n k : Nat} {f : Nat → α} (h : n ≤ k) : ((List.range n).map f).drop k = [] := List.drop_eq_nil_of_le (by simpa using h)
theorem mr_case {α : Type} {n k : Nat} {f : Nat → α} {d : α} {ds : List α} (h : d :: ds = ((List.range n).map f).drop k) : k < n ∧ d = f k ∧ ds = ((List.range n).map f).drop (k + 1) := by
  by_cases q : k < n
  · rw [mr_drop q] at h
    obtain ⟨h1, h2⟩ := List.cons.inj h
    exact ⟨q, h1, h2⟩
  · rw [mr_end (by omega)] at h
    cases h
theorem mr_nil {α : Type} {n k : Nat} {f : Nat → α} (h : [] = ((List.range n).map f).drop k) : n ≤ k := by
  by_cases q : k < n
  · rw [mr_drop q] at h
    cases h
  · omega
/-- sooner, or at once and no later -/
def Le (p : SX.Pr) (b : Nat → Nat) (c r i : Nat) : Prop := p.T b r p.be * p.T b i (p.c c) < p.T b i p.be * p.T b r (p.c c) ∨ (p.T b r p.be * p.T b i (p.c c) = p.T b i p.be * p.T b r (p.c c) ∧ b r ≤ b i)
theorem Le.le {p : SX.Pr} {b : Nat → Nat} {c r i : Nat} (h : Le p b c r i) : p.T b r p.be * p.T b i (p.c c) ≤ p.T b i p.be * p.T b r (p.c c) := by
  rcases h with h | h
  · omega
  · omega
theorem Le.trans {p : SX.Pr} {b : Nat → Nat} {c r i k : Nat} (hr : 0 < p.T b r (p.c c)) (hi : 0 < p.T b i (p.c c)) (hk : 0 < p.T b k (p.c c)) (h1 : Le p b c r i) (h2 : Le p b c i k) : Le p b c r k := by
  have l := SX.quo_le hr hi hk h1.le h2.le
  by_cases q : p.T b r p.be * p.T b k (p.c c) = p.T b k p.be * p.T b r (p.c c)
  · right
    refine ⟨q, ?_⟩
    have e1 := SX.quo_le hk hr hi (Int.le_of_eq q.symm) h1.le
    have e2 := SX.quo_le hi hk hr h2.le (Int.le_of_eq q.symm)
    have b1 : b r ≤ b i := by
      rcases h1 with h | h
      · omega
      · exact h.2
    have b2 : b i ≤ b k := by
      rcases h2 with h | h
      · omega
      · exact h.2
    omega
  · left
    omega
theorem Le.refl {p : SX.Pr} {b : Nat → Nat} {c r : Nat} : Le p b c r r := .inr ⟨rfl, Nat.le_refl _⟩
end KL
namespace KL
open PySem L2 VL
def iI : List D → List Int
  | [] => []
  | .int i :: r => i :: iI r
  | _ :: r => iI r
end KL
namespace KL
open PySem L2 VL
end KL
namespace KL
open PySem L2 VL
def Mm (h : List Cell) (i : Nat) (F : List (Str × D)) (t : List Cell) : List Cell := h.set i (.o "Table" F) ++ t
end KL
namespace KL
open PySem L2 VL
end KL
namespace KL
open PySem L2 VL
def lets : Str := "abcdefghijklmnopqrstuvwxyz"
def isWord : D → Bool
  | .str x => decide (1 ≤ x.length) && (decide (x.length ≤ 8) && x.cps.toList.all fun c => decide (c ∈ lets.cps.toList))
  | _ => false
def isNum : D → Bool
  | .int _ => true
  | _ => false
def areNums (k : Int) : D → Bool
  | .tup es => ((es.length : Int) == k) && es.all isNum
  | _ => false
def okS (ws : List Str) : Bool := decide (1 ≤ ws.length) && (decide (ws.length ≤ 5) && (ws.all (fun x => isWord (.str x)) && (ws.zip (ws.drop 1)).all fun q => sLt q.1 q.2))
def ltD : D → D → Bool
  | .str a, .str b => sLt a b
  | _, _ => false
def isSizes : D → Bool
  | .tup es => decide (1 ≤ es.length) && (decide (es.length ≤ 5) && (es.all isWord && (es.zip (es.drop 1)).all fun q => ltD q.1 q.2))
  | _ => false
def LIM : Nat := 2 ^ 60
/-- words of facts -/
inductive Wd
  | le | ab | al
  deriving DecidableEq
abbrev Fc := Wd × List Int
abbrev TS (ws : List Str) : D := .tup (ws.map .str)
/-- what may stand in a table -/
def okF (k : Nat) (f : Fc) : Prop := f.2.length = k ∧ ∀ i ∈ f.2, i.natAbs ≤ 10 ^ 60
def neg (p : List Int) : List Int := p.map fun i => -i
def F_is_word : FT := fun ds st Q _ => ∃ d, ds = [d] ∧ tyOk d = true ∧ (∀ x, d = .str x → x.length ≤ 100000) ∧ Q (.bl (isWord d)) st
def F_is_number : FT := fun ds st Q _ => ∃ d, ds = [d] ∧ tyOk d = true ∧ Q (.bl (isNum d)) st
def among (lo hi : Int) : D → Bool
  | .int i => decide (lo ≤ i) && decide (i ≤ hi)
  | _ => false
def F_is_among : FT := fun ds st Q _ => ∃ (d : D) (lo hi : Int), ds = [d, .int lo, .int hi] ∧ tyOk d = true ∧ Q (.bl (among lo hi d)) st
def F_need_sizes : FT := fun ds st Q E => ∃ d, ds = [d] ∧ cl d = true ∧ wt d ≤ 100000 ∧ (isSizes d = true → Q d st) ∧ (isSizes d = false → E ⟨"BadSizes", [("value", d)]⟩ st)
def F_law_begun : FT := fun ds st Q _ => ∃ ns : List Int, ds = [.scr ns] ∧ st = m0 ∧ ns.length ≤ 63 ∧ (∀ c ∈ ns, Builtin.Int.intBits c ≤ 1048576) ∧ Q .drw ⟨1, []⟩
def F_law_next : FT := fun ds st Q _ => ∃ k : Int, ds = [.drw, .int k] ∧ 0 < k ∧ k < 2 ^ 30 ∧ st.n < LIM ∧ ∀ (r : Int) (n' : Nat), 0 ≤ r → r < k → n' ≤ st.n + 1 → Q (.int r) ⟨n', st.h⟩
def F_law_names : FT := fun ds st Q _ => ∃ k : Nat, ds = [.drw, .int k] ∧ 1 ≤ k ∧ k ≤ 25 ∧ st.n + 20 < LIM ∧ ∀ (ws : List Str) (n' : Nat), ws.length = k → (∀ x ∈ ws, isWord (.str x) = true) → ws.Nodup → n' ≤ st.n + 20 → Q (.lst (ws.map .str)) ⟨n', st.h⟩
def F_law_sizes : FT := fun ds st Q _ => ∃ k : Nat, ds = [.drw, .int k] ∧ 1 ≤ k ∧ k ≤ 5 ∧ st.n + 30 < LIM ∧ ∀ (ws : List Str) (n' : Nat), okS ws = true → ws.length ≤ k → n' ≤ st.n + 30 → Q (TS ws) ⟨n', st.h⟩
def sm5 (p : List Int) : Prop := ∀ i ∈ p, -5 ≤ i ∧ i ≤ 5
def F_law_sum : FT := fun ds st Q _ => ∃ ps ns : List Int, ds = [TI ps, TI ns] ∧ ps.length ≤ 1000 ∧ (sm5 ps ∨ sm5 ns) ∧ Q (.int (SX.dotL ps ns)) st
def F_law_numbers : FT := fun ds st Q _ => ∃ k : Nat, ds = [.drw, .int k] ∧ k ≤ 100 ∧ st.n + 200 < LIM ∧ ∀ (ps : List Int) (n' : Nat), ps.length = k → sm5 ps → n' ≤ st.n + k → Q (TI ps) ⟨n', st.h⟩
end KL
namespace KL
open PySem L2 VL
abbrev sz_is_word : Nat := 2
def m_is_word : MS :=
  (mRet (mAndD (mUn (isiD isStr) (mVar 0)) (mAndD (mChain (ordD (fun i j => decide (i ≤ j)) fun x y => !sLt y x) (ordD (fun i j => decide (i ≤ j)) fun x y => !sLt y x) (mC (.int 1)) (mB lenD (mCons (mVar 0) mNil)) (mC (.int 8))) (mB allD (mCons (mComp [1] (mIt itS (mVar 0)) (gN 1) mYes (mOp (inD false) (mVar 1) (mC (.str "abcdefghijklmnopqrstuvwxyz")))) mNil)))))
abbrev sz_is_number : Nat := 1
def m_is_number : MS :=
  (mRet (mAndD (mUn (isiD isInt) (mVar 0)) (mNotD (mUn (isiD isBool) (mVar 0)))))
abbrev sz_is_among : Nat := 3
def m_is_among : MS :=
  (mRet (mAndD (mCall 1 F_is_number (mCons (mVar 0) mNil)) (mChain (ordD (fun i j => decide (i ≤ j)) fun x y => !sLt y x) (ordD (fun i j => decide (i ≤ j)) fun x y => !sLt y x) (mVar 1) (mVar 0) (mVar 2))))
abbrev sz_need_sizes : Nat := 3
def m_need_sizes : MS :=
  (mSeq (mIfS (mOr (mNot (mTru (mUn (isiD isTup) (mVar 0)))) (mOr (mNot (mChainT (ordD (fun i j => decide (i ≤ j)) fun x y => !sLt y x) (ordD (fun i j => decide (i ≤ j)) fun x y => !sLt y x) (mC (.int 1)) (mB lenD (mCons (mVar 0) mNil)) (mC (.int 5)))) (mNot (mTru (mB allD (mCons (mComp [1] (mIt itT (mVar 0)) (gN 1) mYes (mCall 1 F_is_word (mCons (mVar 1) mNil))) mNil)))))) (mRaise "BadSizes" "value" (mVar 0)) mNext)
  (mSeq (mIfS (mNot (mTru (mB allD (mCons (mComp [1, 2] (mItA itZ2 (mCons (mVar 0) (mCons (mSl (mVar 0) (mPart (mC (.int 1))) mNoP) mNil))) (gTp 2 (gCons (gN 1) (gCons (gN 2) gNil))) mYes (mOp (ordD (fun i j => decide (i < j)) sLt) (mVar 1) (mVar 2))) mNil)))) (mRaise "BadSizes" "value" (mVar 0)) mNext)
  (mRet (mVar 0))))
abbrev sz_law_names : Nat := 9
def m_law_names : MS :=
  (mSeq (mAsg (mTup (mCons (mC (.str "abcdefghijklmnopqrstuvwxyz")) (mCons (mC (.str "")) mNil))) (gTp 2 (gCons (gN 2) (gCons (gN 3) gNil))))
  (mSeq (mFor (mItA it1 (mCons (mCall 2 F_law_next (mCons (mVar 0) (mCons (mC (.int 8)) mNil))) mNil)) (gN 4)
  (mSet 3 (mOp addD (mVar 3) (mOp idxD (mVar 2) (mCall 2 F_law_next (mCons (mVar 0) (mCons (mC (.int 26)) mNil)))))))
  (mSeq (mAsg (mTup (mCons (mCall 2 F_law_next (mCons (mVar 0) (mCons (mOp addD (mB lenD (mCons (mVar 3) mNil)) (mC (.int 1))) mNil))) (mCons (mCall 2 F_law_next (mCons (mVar 0) (mCons (mC (.int 26)) mNil))) (mCons (mOp idxD (mLst (mCons (mC (.int 1)) (mCons (mC (.int 3)) (mCons (mC (.int 5)) (mCons (mC (.int 7)) (mCons (mC (.int 9)) (mCons (mC (.int 11)) mNil))))))) (mCall 2 F_law_next (mCons (mVar 0) (mCons (mC (.int 6)) mNil)))) mNil)))) (gTp 3 (gCons (gN 5) (gCons (gN 6) (gCons (gN 7) gNil)))))
  (mSeq (mSet 8 (mSl (mOp addD (mVar 3) (mOp mulD (mOp idxD (mVar 2) (mVar 6)) (mC (.int 8)))) mNoP (mPart (mC (.int 8)))))
  (mSeq (mIfS (mAnd (mTst (mOp (ordD (fun i j => decide (j < i)) fun x y => sLt y x) (mVar 7) (mC (.int 5)))) (mTst (mOp (ordD (fun i j => decide (i < j)) sLt) (mVar 1) (mC (.int 9))))) (mRet (mComp [4] (mItA it1 (mCons (mVar 1) mNil)) (gN 4) mYes (mIf (mTst (mOp (ordD (fun i j => decide (j < i)) fun x y => sLt y x) (mVar 7) (mC (.int 7)))) (mSl (mVar 8) (mPart (mVar 4)) mNoP) (mSl (mVar 8) mNoP (mPart (mOp (dI (fun _ _ => True) fun i j => .int (i - j)) (mOp addD (mVar 4) (mC (.int 9))) (mVar 1))))))) mNext)
  (mRet (mComp [4] (mItA it1 (mCons (mVar 1) mNil)) (gN 4) mYes (mOp addD (mOp addD (mSl (mVar 3) mNoP (mPart (mVar 5))) (mOp idxD (mVar 2) (mOp (dI (fun _ j => 0 < j) fun i j => .int (i % j)) (mB intD (mCons (mOp addD (mVar 6) (mOp mulD (mVar 7) (mVar 4))) mNil)) (mC (.int 26))))) (mSl (mVar 3) (mPart (mVar 5)) mNoP)))))))))
abbrev sz_law_sizes : Nat := 2
def m_law_sizes : MS :=
  (mRet (mB tupleD (mCons (mB sortD (mCons (mCall 2 F_law_names (mCons (mVar 0) (mCons (mOp addD (mC (.int 1)) (mCall 2 F_law_next (mCons (mVar 0) (mCons (mVar 1) mNil)))) mNil))) mNil)) mNil)))
abbrev sz_law_sum : Nat := 4
def m_law_sum : MS :=
  (mRet (mB sumAD (mCons (mComp [2, 3] (mItA itZ2 (mCons (mVar 0) (mCons (mVar 1) mNil))) (gTp 2 (gCons (gN 2) (gCons (gN 3) gNil))) mYes (mOp mulD (mVar 2) (mVar 3))) mNil)))
abbrev sz_law_numbers : Nat := 3
def m_law_numbers : MS :=
  (mRet (mB tupleD (mCons (mComp [2] (mItA it1 (mCons (mVar 1) mNil)) (gN 2) mYes (mOp (dI (fun _ _ => True) fun i j => .int (i - j)) (mCall 2 F_law_next (mCons (mVar 0) (mCons (mC (.int 11)) mNil))) (mC (.int 5)))) mNil)))
end KL
namespace KL
open PySem L2 VL
theorem v_is_number (ds : List D) (st : Ms) (Q : D → Ms → Prop) (E : Exn → Ms → Prop) (h : F_is_number ds st Q E) : m_is_number ⟨startE sz_is_number ds, st⟩ (endsOf Q E) := by
  obtain ⟨d, rfl, ht, hq⟩ := h
  show m_is_number ⟨[.dat d], st⟩ (endsOf Q E)
  cases d <;> first | (cases ht; done) | exact ⟨rfl, rfl, hq⟩ | exact ⟨rfl, hq⟩
theorem v_is_word (ds : List D) (st : Ms) (Q : D → Ms → Prop) (E : Exn → Ms → Prop) (h : F_is_word ds st Q E) : m_is_word ⟨startE sz_is_word ds, st⟩ (endsOf Q E) := by
  obtain ⟨d, rfl, ht, hl, hq⟩ := h
  show m_is_word ⟨[.dat d, .un], st⟩ (endsOf Q E)
  cases d <;> first | (cases ht; done) | exact ⟨rfl, hq⟩ | skip
  rename_i x
  have hx : x.length ≤ sizeLine := Nat.le_trans (hl x rfl) (by decide)
  refine ⟨rfl, ?_⟩
  refine ⟨hx, _, rfl, ?_⟩
  by_cases h1 : (1 : Int) ≤ (x.length : Nat)
  · rw [if_pos (decide_eq_true h1)]
    by_cases h2 : ((x.length : Nat) : Int) ≤ 8
    · simp only [mC, ordD, truD, decide_eq_true h2, if_true]
      refine compR_map (fun d => match d with | .str y => .bl (decide (y.cps.toList.all (fun c => decide (c ∈ lets.cps.toList)) = true)) | _ => .non) (signs x) [] ?_ (fun d hd q hq => ?_) ?_
      · simp only [signs, List.length_map, List.length_nil]
        have := hl x rfl
        simp only [Str.length] at this
        simpa using Nat.le_trans this (by decide)
      · obtain ⟨c, hc, rfl⟩ := List.mem_map.mp hd
        refine ⟨c, rfl, ?_⟩
        have e : xor false (decide (c ∈ (Str.ofString "abcdefghijklmnopqrstuvwxyz").cps.toList)) = decide ((⟨#[c]⟩ : Str).cps.toList.all (fun c => decide (c ∈ lets.cps.toList)) = true) := by
          simp [lets]
        rw [e]
        exact hq
      · refine ⟨x.cps.toList.map fun c => decide (c ∈ lets.cps.toList), ?_, ?_⟩
        · simp [signs]
        · have e : isWord (.str x) = (x.cps.toList.map fun c => decide (c ∈ lets.cps.toList)).all id := by
            have h1' : 1 ≤ x.length := by omega
            have h2' : x.length ≤ 8 := by omega
            simp only [isWord, decide_eq_true h1', decide_eq_true h2', Bool.true_and, List.all_map]
            rfl
          rw [← e]
          exact hq
    · simp only [mC, ordD, truD, decide_eq_false h2, if_false, Bool.false_eq_true]
      have e : isWord (.str x) = false := by
        have h2' : ¬ x.length ≤ 8 := by omega
        simp only [isWord, decide_eq_false h2', Bool.false_and, Bool.and_false]
      rw [e] at hq
      exact hq
  · rw [if_neg (by simpa using h1)]
    have e : isWord (.str x) = false := by
      have h1' : ¬ 1 ≤ x.length := by omega
      simp only [isWord, decide_eq_false h1', Bool.false_and]
    rw [e] at hq
    exact hq
theorem okS_of {ws : List Str} (h : okS ws = true) : 1 ≤ ws.length ∧ ws.length ≤ 5 ∧ (∀ x ∈ ws, isWord (.str x) = true) ∧ (ws.zip (ws.drop 1)).all (fun q => sLt q.1 q.2) = true := by
  unfold okS at h
  simp only [Bool.and_eq_true, decide_eq_true_eq] at h
  exact ⟨h.1, h.2.1, fun x hx => List.all_eq_true.mp h.2.2.1 x hx, h.2.2.2⟩
theorem word_len {x : Str} (h : isWord (.str x) = true) : x.length ≤ 8 := by
  unfold isWord at h
  simp only [Bool.and_eq_true, decide_eq_true_eq] at h
  exact h.2.1
theorem cut1 (ds : List D) : cutG ds (some 1) none = ds.drop 1 := by
  unfold cutG HT.sIx
  cases ds with
  | nil => rfl
  | cons c r =>
    simp only [List.length_cons]
    have e : min (Int.toNat 1) (r.length + 1) = 1 := by
      show min 1 _ = 1
      omega
    rw [if_neg (by decide), e]
    simp only [List.drop_succ_cons, List.drop_zero, Nat.add_sub_cancel, List.take_length]
theorem ex_ints {R : Int → Prop} : ∀ {ys : List D}, (∀ y ∈ ys, ∃ p, y = .int p ∧ R p) → ∃ ps : List Int, ys = ps.map .int ∧ ∀ p ∈ ps, R p
  | [], _ => ⟨[], rfl, fun _ z => (nomatch z)⟩
  | y :: ys, h => by
    obtain ⟨p, rfl, hp⟩ := h y (by simp)
    obtain ⟨ps, rfl, hs⟩ := ex_ints (R := R) (ys := ys) fun z hz => h z (by simp [hz])
    exact ⟨p :: ps, rfl, fun z hz => by
      rcases List.mem_cons.mp hz with q | q
      · rw [q]; exact hp
      · exact hs z q⟩
theorem v_law_numbers (ds : List D) (st : Ms) (Q : D → Ms → Prop) (E : Exn → Ms → Prop) (h : F_law_numbers ds st Q E) : m_law_numbers ⟨startE sz_law_numbers ds, st⟩ (endsOf Q E) := by
  obtain ⟨n, hh⟩ := st
  obtain ⟨k, rfl, hk, hn, hq⟩ := h
  show m_law_numbers ⟨[.dat .drw, .dat (.int k), .un], ⟨n, hh⟩⟩ (endsOf Q E)
  refine ⟨by (try dsimp only at *); omega, by (try dsimp only at *); omega, ?_⟩
  have ek : (k : Int).toNat = k := by (try dsimp only at *); omega
  rw [ek]
  have hL : n + 1 * (rng 0 k).length ≤ n + 200 := by rw [rng_len]; (try dsimp only at *); omega
  refine compR_draw (P := fun d => ∃ p, d = .int p ∧ -5 ≤ p ∧ p ≤ 5) (c := 1) (L := n + 200) (rng 0 k) [] n (by rw [rng_len]; simp; omega) hL (fun d hd n' hn' q hq' => ?_) fun ys n' hy hP hn' => ?_
  · refine ⟨rfl, 11, rfl, by decide, by decide, ?_, fun r n2 h0 h1 hn2 => ?_⟩
    · show n' < LIM
      (try dsimp only at *)
      omega
    · exact ⟨trivial, hq' _ _ ⟨r - 5, rfl, by (try dsimp only at *); omega, by (try dsimp only at *); omega⟩ hn2⟩
  · obtain ⟨ps, rfl, hps⟩ := ex_ints hP
    rw [rng_len, List.length_map] at hy
    rw [rng_len] at hn'
    exact hq ps n' hy hps (by (try dsimp only at *); omega)
end KL
namespace KL
open PySem L2 VL
theorem str_ext {x y : Str} (h : x.cps.toList = y.cps.toList) : x = y := by
  cases x
  cases y
  simp only at h
  congr
  exact Array.toList_inj.mp h
theorem len_cp (x : Str) : x.length = x.cps.toList.length := by simp [Str.length]
theorem cp_app (x y : Str) : (x ++ y).cps.toList = x.cps.toList ++ y.cps.toList := by
  show (Str.append x y).cps.toList = _
  simp [Str.append]
theorem cp_one (c : Nat) : (⟨#[c]⟩ : Str).cps.toList = [c] := rfl
theorem six {n d : Nat} {a : Int} (h0 : 0 ≤ a) (h1 : a ≤ n) : HT.sIx n d (some a) = a.toNat := by
  show (if a < 0 then (a + (n : Int)).toNat else min a.toNat n) = _
  rw [if_neg (by omega)]
  omega
theorem cp_to (x : Str) {a : Int} (h0 : 0 ≤ a) (h1 : a ≤ x.length) : (cutS x none (some a)).cps.toList = x.cps.toList.take a.toNat := by
  unfold cutS
  rw [six h0 h1, HT.sIx_none]
  simp
theorem cp_from (x : Str) {a : Int} (h0 : 0 ≤ a) (h1 : a ≤ x.length) : (cutS x (some a) none).cps.toList = x.cps.toList.drop a.toNat := by
  unfold cutS
  rw [six h0 h1, HT.sIx_none]
  simp only [List.toList_toArray]
  rw [List.take_of_length_le]
  rw [List.length_drop, len_cp]
  omega
theorem cp_rep (c n : Nat) : (strRep ⟨#[c]⟩ n).cps.toList = List.replicate n c := by
  simp only [strRep, cp_one, List.toList_toArray]
  induction n with
  | zero => rfl
  | succ n ih => rw [List.replicate_succ, List.flatten_cons, ih, List.replicate_succ]; rfl
theorem word_iff (x : Str) : isWord (.str x) = true ↔ 1 ≤ x.length ∧ x.length ≤ 8 ∧ ∀ c ∈ x.cps.toList, c ∈ lets.cps.toList := by
  simp only [isWord, Bool.and_eq_true, decide_eq_true_eq, List.all_eq_true]
theorem nodup_range {α : Type} {g : Nat → α} {k : Nat} (h : ∀ i j, i < j → j < k → g i ≠ g j) : ((List.range k).map g).Nodup := by
  rw [List.Nodup, List.pairwise_iff_getElem]
  intro i j hi hj hij
  simp only [List.getElem_map, List.getElem_range]
  exact h i j hij (by simpa using hj)
theorem lets_len : lets.cps.toList.length = 26 := by decide +kernel
theorem lets_nd : lets.cps.toList.Nodup := by decide +kernel
theorem lets_at {i : Int} (h0 : 0 ≤ i) (h1 : i < 26) : ∃ c, lets.cps.toList[i.toNat]? = some c ∧ c ∈ lets.cps.toList ∧ atI lets.cps.toList i = some c := by
  have hl : i.toNat < lets.cps.toList.length := by rw [lets_len]; omega
  refine ⟨lets.cps.toList[i.toNat], by simp [hl], List.getElem_mem hl, ?_⟩
  unfold atI ixN
  rw [if_pos h0, if_pos (by rw [lets_len]; omega)]
  simp [hl]
theorem lets_inj {i j : Int} {c : Nat} (hi : 0 ≤ i) (hi2 : i < 26) (hj : 0 ≤ j) (hj2 : j < 26) (h1 : atI lets.cps.toList i = some c) (h2 : atI lets.cps.toList j = some c) : i = j := by
  obtain ⟨a, ha, _, ha2⟩ := lets_at hi hi2
  obtain ⟨b, hb, _, hb2⟩ := lets_at hj hj2
  rw [h1] at ha2
  rw [h2] at hb2
  cases ha2
  cases hb2
  have l1 : i.toNat < lets.cps.toList.length := by rw [lets_len]; omega
  have := (List.getElem?_inj l1 lets_nd).mp (ha.trans hb.symm)
  omega
theorem by_inj {f b : Int} {k j : Nat} (hb : b = 1 ∨ b = 3 ∨ b = 5 ∨ b = 7 ∨ b = 9 ∨ b = 11) (hk : k < 26) (hj : j < 26) (h : (f + b * (0 + (k : Nat))) % 26 = (f + b * (0 + (j : Nat))) % 26) : k = j := by
  rcases hb with rfl | rfl | rfl | rfl | rfl | rfl <;> omega
theorem szS {x : Str} (h : x.length ≤ 1000) : x.length ≤ sizeLine := Nat.le_trans h (by decide)
theorem lets_sz : lets.length ≤ sizeLine := by decide +kernel
theorem len_app (x y : Str) : (x ++ y).length = x.length + y.length := by rw [len_cp, cp_app, List.length_append, ← len_cp, ← len_cp]
abbrev OkW (x : Str) : Prop := ∀ c ∈ x.cps.toList, c ∈ lets.cps.toList
theorem fin_names {k : Nat} {n' : Ms} {Q : D → Ms → Prop} {G : Nat → Str} (hq : ∀ (ws : List Str), ws.length = k → (∀ x ∈ ws, isWord (.str x) = true) → ws.Nodup → Q (.lst (ws.map .str)) n')
    (hw : ∀ i, i < k → isWord (.str (G i)) = true) (hne : ∀ i j, i < j → j < k → G i ≠ G j) {f : D → D} (hf : ∀ i : Nat, f (.int (0 + (i : Nat))) = .str (G i)) : Q (.lst ([] ++ (rng 0 k).map f)) n' := by
  have e : ([] ++ (rng 0 k).map f : List D) = ((List.range k).map G).map D.str := by
    simp only [rng, List.nil_append, List.map_map]
    apply List.map_congr_left
    intro i _
    exact hf i
  rw [e]
  refine hq _ (by simp) (fun x hx => ?_) (nodup_range hne)
  obtain ⟨i, hi, rfl⟩ := List.mem_map.mp hx
  exact hw i (List.mem_range.mp hi)
theorem rng_mem {d : D} {k : Nat} (h : d ∈ rng 0 k) : ∃ i : Nat, i < k ∧ d = .int (0 + (i : Nat)) := by
  obtain ⟨i, hi, rfl⟩ := List.mem_map.mp h
  exact ⟨i, List.mem_range.mp hi, rfl⟩
theorem cut_ok {w : Str} (hw : OkW w) {a : Int} (h0 : 0 ≤ a) (h1 : a ≤ w.length) : OkW (cutS w none (some a)) ∧ OkW (cutS w (some a) none) ∧ (cutS w none (some a)).length = a.toNat ∧ (cutS w (some a) none).length = w.length - a.toNat := by
  refine ⟨fun c hc => ?_, fun c hc => ?_, ?_, ?_⟩
  · rw [cp_to w h0 h1] at hc
    exact hw c (List.mem_of_mem_take hc)
  · rw [cp_from w h0 h1] at hc
    exact hw c (List.mem_of_mem_drop hc)
  · rw [len_cp, cp_to w h0 h1, List.length_take, ← len_cp]
    omega
  · rw [len_cp, cp_from w h0 h1, List.length_drop, ← len_cp]
theorem word_ok {stem : Str} {c : Nat} (hs : OkW stem) (hc : c ∈ lets.cps.toList) : (cutS (stem ++ strRep ⟨#[c]⟩ (Int.toNat 8)) none (some 8)).length = 8 ∧ OkW (cutS (stem ++ strRep ⟨#[c]⟩ (Int.toNat 8)) none (some 8)) := by
  have hl : (strRep ⟨#[c]⟩ (Int.toNat 8)).length = 8 := by
    rw [len_cp, cp_rep]
    simp
  have ok : OkW (stem ++ strRep ⟨#[c]⟩ (Int.toNat 8)) := fun x hx => by
    rw [cp_app] at hx
    rcases List.mem_append.mp hx with q | q
    · exact hs x q
    · rw [cp_rep] at q
      rw [List.eq_of_mem_replicate q]
      exact hc
  obtain ⟨h1, _, h3, _⟩ := cut_ok ok (a := 8) (by decide) (by rw [len_app, hl]; omega)
  exact ⟨h3, h1⟩
theorem v_law_names (ds : List D) (st : Ms) (Q : D → Ms → Prop) (E : Exn → Ms → Prop) (h : F_law_names ds st Q E) : m_law_names ⟨startE sz_law_names ds, st⟩ (endsOf Q E) := by
  obtain ⟨n, hh⟩ := st
  obtain ⟨k, rfl, hk1, hk2, hn, hq⟩ := h
  show m_law_names ⟨[.dat .drw, .dat (.int k), .un, .un, .un, .un, .un, .un, .un], ⟨n, hh⟩⟩ (endsOf Q E)
  refine ⟨by decide, rfl, rfl, ?_⟩
  refine ⟨rfl, 8, rfl, by decide, by decide, by (try dsimp only at *); omega, fun r n1 h0 h1 hn1 => ⟨by omega, by omega, ?_⟩⟩
  have hn1' : n1 ≤ n + 1 := hn1
  clear hn1
  refine forR_inv (fun items s => ∃ stem a n', s = ⟨[.dat .drw, .dat (.int k), .dat (.str lets), .dat (.str stem), a, .un, .un, .un, .un], ⟨n', hh⟩⟩ ∧ stem.length + items.length ≤ 7 ∧ OkW stem ∧ n' + items.length ≤ n + 8) ?_ ?_ _ _ ⟨Str.ofString "", _, n1, rfl, ?_, ?_, ?_⟩
  · rintro s ⟨stem, a, n2, rfl, hs, hw, hn2⟩
    simp only [List.length_nil, Nat.add_zero] at hs hn2
    refine ⟨szS (by omega), ?_⟩
    refine ⟨rfl, (stem.length : Int) + 1, rfl, by omega, by omega, by (try dsimp only at *); omega, fun at_ n3 a0 a1 hn3 => ?_⟩
    refine ⟨rfl, 26, rfl, by decide, by decide, by (try dsimp only at *); omega, fun fi n4 f0 f1 hn4 => ?_⟩
    refine ⟨by decide, rfl, 6, rfl, by decide, by decide, by (try dsimp only at *); omega, fun br n5 b0 b1 hn5 => ?_⟩
    have hn5' : n5 ≤ n + 20 := by
      (try dsimp only at *)
      omega
    obtain ⟨by_, hby, eby⟩ := atI_some (xs := [D.int 1, .int 3, .int 5, .int 7, .int 9, .int 11]) (i := br) b0 (by simpa using b1)
    refine ⟨by_, eby, (by decide : 3 ≤ sizeLine), rfl, rfl, ?_⟩
    obtain ⟨b, rfl, hb⟩ : ∃ b : Int, by_ = .int b ∧ (b = 1 ∨ b = 3 ∨ b = 5 ∨ b = 7 ∨ b = 9 ∨ b = 11) := by
      simp only [List.mem_cons, List.not_mem_nil, or_false] at hby
      rcases hby with rfl | rfl | rfl | rfl | rfl | rfl <;> exact ⟨_, rfl, by decide⟩
    clear hby eby b0 b1 hn5 hn4 hn3
    obtain ⟨c, _, hc, ec⟩ := lets_at f0 f1
    have hl8 : (strRep ⟨#[c]⟩ (Int.toNat 8)).length = 8 := by
      rw [len_cp, cp_rep]
      simp
    have hla : (stem ++ strRep ⟨#[c]⟩ (Int.toNat 8)).length ≤ 1000 := by rw [len_app, hl8]; omega
    refine ⟨lets_sz, c, ec, ⟨by decide, by decide, (by decide : 1 ≤ 1000)⟩, Nat.le_trans (show stem.length + (strRep ⟨#[c]⟩ (Int.toNat 8)).length ≤ 1000 by rw [hl8]; omega) (by decide), szS hla, ?_⟩
    obtain ⟨hw8, hwo⟩ := word_ok hw hc
    generalize cutS (stem ++ strRep ⟨#[c]⟩ (Int.toNat 8)) none (some 8) = word at hw8 hwo ⊢
    have ek : (k : Int).toNat = k := by omega
    have hcl : ([] : List D).length + (rng 0 k).length ≤ 1000000 := by rw [rng_len]; simp; omega
    have hq' : ∀ (ws : List Str), ws.length = k → (∀ x ∈ ws, isWord (.str x) = true) → ws.Nodup → Q (.lst (ws.map .str)) ⟨n5, hh⟩ := fun ws a1 a2 a3 => hq ws n5 a1 a2 a3 hn5'
    have last : mRet (mComp [4] (mItA it1 (mCons (mVar 1) mNil)) (gN 4) mYes (mOp addD (mOp addD (mSl (mVar 3) mNoP (mPart (mVar 5))) (mOp idxD (mVar 2) (mOp (dI (fun _ j => 0 < j) fun i j => .int (i % j)) (mB intD (mCons (mOp addD (mVar 6) (mOp mulD (mVar 7) (mVar 4))) mNil)) (mC (.int 26))))) (mSl (mVar 3) (mPart (mVar 5)) mNoP)))
        ⟨[.dat .drw, .dat (.int k), .dat (.str lets), .dat (.str stem), a, .dat (.int at_), .dat (.int fi), .dat (.int b), .dat (.str word)], ⟨n5, hh⟩⟩ (endsOf Q E) := by
      refine ⟨by omega, by omega, ?_⟩
      rw [ek]
      obtain ⟨o1, o2, l1, l2⟩ := cut_ok hw (a := at_) a0 (by omega)
      have gi : ∀ i : Nat, ∃ c, atI lets.cps.toList ((fi + b * (0 + (i : Nat))) % 26) = some c ∧ c ∈ lets.cps.toList := fun i => by
        obtain ⟨c, _, h1, h2⟩ := lets_at (i := (fi + b * (0 + (i : Nat))) % 26) (Int.emod_nonneg _ (by decide)) (Int.emod_lt_of_pos _ (by decide))
        exact ⟨c, h2, h1⟩
      have gc : ∀ i : Nat, atI lets.cps.toList ((fi + b * (0 + (i : Nat))) % 26) = some ((atI lets.cps.toList ((fi + b * (0 + (i : Nat))) % 26)).getD 0) ∧ (atI lets.cps.toList ((fi + b * (0 + (i : Nat))) % 26)).getD 0 ∈ lets.cps.toList := fun i => by
        obtain ⟨c, h1, h2⟩ := gi i
        rw [h1]
        exact ⟨rfl, h2⟩
      refine compR_map (fun d => match d with | .int i => .str (cutS stem none (some at_) ++ ⟨#[(atI lets.cps.toList ((fi + b * i) % 26)).getD 0]⟩ ++ cutS stem (some at_) none) | _ => .non) (rng 0 k) [] hcl (fun d hd q hq2 => ?_)
        (fin_names (G := fun i => cutS stem none (some at_) ++ ⟨#[(atI lets.cps.toList ((fi + b * (0 + (i : Nat))) % 26)).getD 0]⟩ ++ cutS stem (some at_) none) hq' (fun i hi => ?_) (fun i j hij hj he => ?_) fun i => rfl)
      · obtain ⟨i, hi, rfl⟩ := rng_mem hd
        refine ⟨szS (by omega), ?_⟩
        refine ⟨CMul.ok (i := b) (j := 0 + (i : Nat)) (.inl ⟨by omega, by omega⟩), (by decide : (0 : Int) < 26), lets_sz, _, (gc i).1, ?_⟩
        refine ⟨Nat.le_trans (show (cutS stem none (some at_)).length + 1 ≤ 1000 by omega) (by decide), szS (by omega), ?_⟩
        refine ⟨Nat.le_trans (show (cutS stem none (some at_) ++ ⟨#[_]⟩).length + (cutS stem (some at_) none).length ≤ 1000 from ?_) (by decide), hq2⟩
        rw [len_app]
        have : ∀ z : Nat, (⟨#[z]⟩ : Str).length = 1 := fun _ => rfl
        rw [this]
        omega
      · refine (word_iff _).mpr ⟨?_, ?_, fun x hx => ?_⟩
        · rw [len_app, len_app]
          have : ∀ z : Nat, (⟨#[z]⟩ : Str).length = 1 := fun _ => rfl
          rw [this]
          omega
        · rw [len_app, len_app]
          have : ∀ z : Nat, (⟨#[z]⟩ : Str).length = 1 := fun _ => rfl
          rw [this]
          omega
        · rw [cp_app, cp_app, cp_one] at hx
          rcases List.mem_append.mp hx with q | q
          · rcases List.mem_append.mp q with q | q
            · exact o1 x q
            · rw [List.mem_singleton.mp q]
              exact (gc i).2
          · exact o2 x q
      · have h2 := congrArg (fun z : Str => z.cps.toList) he
        simp only [cp_app, cp_one] at h2
        have h3 := List.append_cancel_right h2
        have h4 := List.append_cancel_left h3
        have h5 : (atI lets.cps.toList ((fi + b * (0 + (i : Nat))) % 26)).getD 0 = (atI lets.cps.toList ((fi + b * (0 + (j : Nat))) % 26)).getD 0 := by simpa using h4
        have h6 := (gc i).1
        rw [h5] at h6
        have h7 := lets_inj (Int.emod_nonneg _ (by decide)) (Int.emod_lt_of_pos _ (by decide)) (Int.emod_nonneg _ (by decide)) (Int.emod_lt_of_pos _ (by decide)) h6 (gc j).1
        have := by_inj hb (by omega) (by omega) h7
        omega
    refine ⟨_, rfl, ?_⟩
    dsimp only
    by_cases hb5 : 5 < b
    · rw [if_pos (decide_eq_true hb5)]
      refine ⟨_, rfl, ?_⟩
      dsimp only
      by_cases hk9 : (k : Int) < 9
      · rw [if_pos (decide_eq_true hk9)]
        refine ⟨by omega, by omega, ?_⟩
        rw [ek]
        by_cases hb7 : 7 < b
        · refine compR_map (fun d => match d with | .int i => .str (cutS word (some i) none) | _ => .non) (rng 0 k) [] hcl (fun d hd q hq2 => ?_) (fin_names (G := fun i => cutS word (some (0 + (i : Nat))) none) hq' (fun i hi => ?_) (fun i j hij hj he => ?_) fun i => rfl)
          · obtain ⟨i, hi, rfl⟩ := rng_mem hd
            refine ⟨_, rfl, ?_⟩
            dsimp only
            rw [if_pos (decide_eq_true hb7)]
            exact ⟨szS (by omega), hq2⟩
          · obtain ⟨o1, o2, l1, l2⟩ := cut_ok hwo (a := 0 + (i : Nat)) (by omega) (by omega)
            exact (word_iff _).mpr ⟨by omega, by omega, o2⟩
          · obtain ⟨_, _, _, l2⟩ := cut_ok hwo (a := 0 + (i : Nat)) (by omega) (by omega)
            obtain ⟨_, _, _, l3⟩ := cut_ok hwo (a := 0 + (j : Nat)) (by omega) (by omega)
            rw [he] at l2
            omega
        · refine compR_map (fun d => match d with | .int i => .str (cutS word none (some (i + 9 - k))) | _ => .non) (rng 0 k) [] hcl (fun d hd q hq2 => ?_) (fin_names (G := fun i => cutS word none (some (0 + (i : Nat) + 9 - k))) hq' (fun i hi => ?_) (fun i j hij hj he => ?_) fun i => rfl)
          · obtain ⟨i, hi, rfl⟩ := rng_mem hd
            refine ⟨_, rfl, ?_⟩
            dsimp only
            rw [if_neg (by simpa using hb7)]
            exact ⟨trivial, szS (by omega), hq2⟩
          · obtain ⟨o1, o2, l1, l2⟩ := cut_ok hwo (a := 0 + (i : Nat) + 9 - k) (by omega) (by omega)
            exact (word_iff _).mpr ⟨by omega, by omega, o1⟩
          · obtain ⟨_, _, l2, _⟩ := cut_ok hwo (a := 0 + (i : Nat) + 9 - k) (by omega) (by omega)
            obtain ⟨_, _, l3, _⟩ := cut_ok hwo (a := 0 + (j : Nat) + 9 - k) (by omega) (by omega)
            rw [he] at l2
            omega
      · rw [if_neg (by simpa using hk9)]
        exact last
    · rw [if_neg (by simpa using hb5)]
      exact last
  · rintro d ds s ⟨stem, a, n2, rfl, hs, hw, hn2⟩ N hN
    simp only [List.length_cons] at hs hn2
    refine ⟨rfl, 26, rfl, by decide, by decide, by (try dsimp only at *); omega, fun fi n4 f0 f1 hn4 => ?_⟩
    obtain ⟨c, _, hc, ec⟩ := lets_at f0 f1
    refine ⟨lets_sz, c, ec, Nat.le_trans (show stem.length + 1 ≤ 1000 by omega) (by decide), ?_⟩
    refine hN _ ⟨stem ++ ⟨#[c]⟩, _, n4, rfl, ?_, fun x hx => ?_, ?_⟩
    · rw [len_app]
      have : (⟨#[c]⟩ : Str).length = 1 := rfl
      omega
    · rw [cp_app] at hx
      rcases List.mem_append.mp hx with q | q
      · exact hw x q
      · rw [cp_one] at q
        rw [List.mem_singleton.mp q]
        exact hc
    · (try dsimp only at *)
      omega
  · rw [rng_len]
    have : (Str.ofString "").length = 0 := by decide +kernel
    omega
  · intro x hx
    have : (Str.ofString "").cps.toList = [] := by decide +kernel
    rw [this] at hx
    cases hx
  · rw [rng_len]
    omega
theorem lt_tri : ∀ a b : List Nat, Spec.ltCps b a = false → a ≠ b → Spec.ltCps a b = true
  | [], [], _, h => absurd rfl h
  | [], _ :: _, _, _ => rfl
  | _ :: _, [], h, _ => by simp [Spec.ltCps] at h
  | a :: r, b :: t, h, hn => by
    simp only [Spec.ltCps, Bool.or_eq_false_iff, Bool.and_eq_false_iff, decide_eq_false_iff_not, beq_eq_false_iff_ne, Bool.or_eq_true, Bool.and_eq_true, decide_eq_true_eq, beq_iff_eq] at h ⊢
    by_cases e : a = b
    · subst e
      right
      refine ⟨rfl, lt_tri r t ?_ fun q => hn (by rw [q])⟩
      rcases h.2 with q | q
      · exact absurd rfl q
      · exact q
    · left
      omega
theorem slt_of {x y : Str} (h : Spec.ltCps y.cps.toList x.cps.toList = false) (hn : x ≠ y) : sLt x y = true := by
  unfold sLt
  rw [← PyProof.Rows.ltCps_eq]
  exact lt_tri _ _ h fun q => hn (str_ext q)
theorem chain_of : ∀ (p : Str) (r : List Str), PyProof.Rows.risingS p r = true → (p :: r).Nodup → ((p :: r).zip r).all (fun q => sLt q.1 q.2) = true
  | _, [], _, _ => rfl
  | p, x :: r, h, hn => by
    simp only [PyProof.Rows.risingS, Bool.and_eq_true, Bool.not_eq_true'] at h
    rw [List.zip_cons_cons, List.all_cons, Bool.and_eq_true]
    refine ⟨slt_of h.1 fun e => ?_, chain_of x r h.2 (List.nodup_cons.mp hn).2⟩
    have := (List.nodup_cons.mp hn).1
    have e' : p = x := e
    rw [e'] at this
    exact this (by simp)
theorem okS_sorted {ws ys : List Str} (hp : ys.Perm ws) (hs : PyProof.Rows.sortedS ys = true) (hw : ∀ x ∈ ws, isWord (.str x) = true) (hn : ws.Nodup) (h1 : 1 ≤ ws.length) (h5 : ws.length ≤ 5) : okS ys = true := by
  have hl := hp.length_eq
  have hn' : ys.Nodup := hp.nodup_iff.mpr hn
  unfold okS
  simp only [Bool.and_eq_true, decide_eq_true_eq]
  refine ⟨by omega, by omega, List.all_eq_true.mpr fun x hx => hw x (hp.mem_iff.mp hx), ?_⟩
  cases ys with
  | nil => rfl
  | cons p r => exact chain_of p r hs hn'
theorem v_law_sizes (ds : List D) (st : Ms) (Q : D → Ms → Prop) (E : Exn → Ms → Prop) (h : F_law_sizes ds st Q E) : m_law_sizes ⟨startE sz_law_sizes ds, st⟩ (endsOf Q E) := by
  obtain ⟨n, hh⟩ := st
  obtain ⟨k, rfl, hk1, hk2, hn, hq⟩ := h
  show m_law_sizes ⟨[.dat .drw, .dat (.int k)], ⟨n, hh⟩⟩ (endsOf Q E)
  refine ⟨rfl, k, rfl, by omega, by omega, by (try dsimp only at *); omega, fun r n1 h0 h1 hn1 => ?_⟩
  refine ⟨rfl, (1 + r).toNat, ?_, by omega, by omega, by (try dsimp only at *); omega, fun ws n2 hl hw hd hn2 => ?_⟩
  · have e : (((1 + r).toNat : Nat) : Int) = 1 + r := by omega
    rw [e]
  · refine ⟨ws, rfl, by omega, fun ys hp hs => ?_⟩
    exact hq ys n2 (okS_sorted hp hs hw hd (by omega) (by omega)) (by have := hp.length_eq; omega) (by (try dsimp only at *); omega)
end KL
namespace KL
open PySem L2 VL
theorem str_wt {d : D} {x : Str} {es : List D} (h : d ∈ es) (e : d = .str x) : x.length ≤ wts es := by
  subst e
  have := wt_mem h
  simp only [wt] at this
  omega
theorem v_need_sizes (ds : List D) (st : Ms) (Q : D → Ms → Prop) (E : Exn → Ms → Prop) (h : F_need_sizes ds st Q E) : m_need_sizes ⟨startE sz_need_sizes ds, st⟩ (endsOf Q E) := by
  obtain ⟨d, rfl, hc, hw, hq, he⟩ := h
  show m_need_sizes ⟨[.dat d, .un, .un], st⟩ (endsOf Q E)
  cases d <;> first | (simp [clB] at hc; done) | exact ⟨rfl, he rfl⟩ | skip
  rename_i es
  have hcs : ∀ d ∈ es, cl d = true := cls_iff.mp (by simpa [clB] using hc)
  have hw' : wts es ≤ 100000 := by simp only [wt] at hw; omega
  have hlen : es.length ≤ 100000 := Nat.le_trans (len_wts es) hw'
  refine ⟨rfl, ?_⟩
  refine ⟨_, rfl, ?_⟩
  by_cases h1 : (1 : Int) ≤ (es.length : Nat)
  rotate_left
  · rw [if_neg (by simpa using h1)]
    refine ⟨_, rfl, he ?_⟩
    simp only [isSizes, decide_eq_false (show ¬ 1 ≤ es.length by omega), Bool.false_and]
  rw [if_pos (decide_eq_true h1)]
  by_cases h2 : ((es.length : Nat) : Int) ≤ 5
  rotate_left
  · refine ⟨_, rfl, ?_⟩
    simp only [decide_eq_false h2, Bool.not_false, if_true]
    refine he ?_
    simp only [isSizes, decide_eq_false (show ¬ es.length ≤ 5 by omega), Bool.false_and, Bool.and_false]
  refine ⟨_, rfl, ?_⟩
  simp only [decide_eq_true h2, Bool.not_true, Bool.false_eq_true, if_false]
  refine compR_map (fun d => .bl (isWord d)) es [] (by simp; omega) (fun d hd q hq => ?_) ?_
  · exact ⟨rfl, d, rfl, cl_ty (hcs d hd), fun x e => Nat.le_trans (str_wt hd e) hw', hq⟩
  refine ⟨es.map isWord, by simp, ?_⟩
  have eall : (es.map isWord).all id = es.all isWord := by rw [List.all_map]; rfl
  rw [eall]
  by_cases h3 : es.all isWord = true
  rotate_left
  · have h3' : es.all isWord = false := by simpa using h3
    simp only [h3', truD, Bool.not_false, if_true]
    refine he ?_
    simp only [isSizes, h3', Bool.false_and, Bool.and_false]
  simp only [h3, truD, Bool.not_true, Bool.false_eq_true, if_false, mNext]
  simp only [mSeq, mIfS, mNot, mTru, mB, mCons, mNil, mComp, mItA, mSl, mPart, mNoP, mC, mVar, slD, List.getElem?_cons_zero, cut1]
  refine ⟨true, true, es, es.drop 1, rfl, rfl, ?_⟩
  have hw2 : ∀ d ∈ es, ∃ x, d = .str x := fun d hd => by
    have := List.all_eq_true.mp h3 d hd
    cases d <;> first | (simp [isWord] at this; done) | exact ⟨_, rfl⟩
  refine compR_map (fun d => match d with | .tup [a, b] => .bl (ltD a b) | _ => .non) _ [] ?_ (fun d hd q hq => ?_) ?_
  · simp [pairs]
    omega
  · obtain ⟨⟨a, b⟩, hab, rfl⟩ := List.mem_map.mp hd
    obtain ⟨x, rfl⟩ := hw2 a (List.of_mem_zip hab).1
    obtain ⟨y, rfl⟩ := hw2 b (List.mem_of_mem_drop (List.of_mem_zip hab).2)
    exact ⟨rfl, rfl, hq⟩
  refine ⟨(es.zip (es.drop 1)).map fun q => ltD q.1 q.2, ?_, ?_⟩
  · simp only [pairs, List.nil_append, List.map_map]
    rfl
  have e2 : ((es.zip (es.drop 1)).map fun q => ltD q.1 q.2).all id = (es.zip (es.drop 1)).all fun q => ltD q.1 q.2 := by rw [List.all_map]; rfl
  rw [e2]
  have ei : isSizes (.tup es) = (es.zip (es.drop 1)).all fun q => ltD q.1 q.2 := by
    simp only [isSizes, decide_eq_true (show 1 ≤ es.length by omega), decide_eq_true (show es.length ≤ 5 by omega), h3, Bool.true_and]
  rw [← ei]
  by_cases h4 : isSizes (.tup es) = true
  · simp only [h4, truD, Bool.not_true, Bool.false_eq_true, if_false, mNext]
    exact hq h4
  · have h4' : isSizes (.tup es) = false := by simpa using h4
    simp only [h4', truD, Bool.not_false, if_true]
    exact he h4'
end KL
namespace KL
open PySem L2 VL
theorem v_is_among (ds : List D) (st : Ms) (Q : D → Ms → Prop) (E : Exn → Ms → Prop) (h : F_is_among ds st Q E) : m_is_among ⟨startE sz_is_among ds, st⟩ (endsOf Q E) := by
  obtain ⟨d, lo, hi, rfl, ht, hq⟩ := h
  show m_is_among ⟨[.dat d, .dat (.int lo), .dat (.int hi)], st⟩ (endsOf Q E)
  refine ⟨rfl, d, rfl, ht, ?_⟩
  cases d <;> first | exact hq | skip
  rename_i i
  refine ⟨_, rfl, ?_⟩
  refine ite_b (fun h => ?_) (fun h => ?_)
  · have h' : lo ≤ i := of_decide_eq_true h
    have e : among lo hi (.int i) = decide (i ≤ hi) := by simp [among, h']
    rw [e] at hq
    exact hq
  · have h' : ¬ lo ≤ i := of_decide_eq_false h
    have e : among lo hi (.int i) = false := by simp [among, h']
    rw [e] at hq
    exact hq
theorem at0' {α : Type} {x : α} {r : List α} : atI (x :: r) 0 = some x := atI_nat (xs := x :: r) (i := 0) (by simp)
theorem at1' {α : Type} {x y : α} {r : List α} : atI (x :: y :: r) 1 = some y := atI_nat (xs := x :: y :: r) (i := 1) (by simp)
end KL
namespace KL
open PySem L2 VL
theorem numbered_eq (xs : List D) : VL.numbered xs = (List.range xs.length).map fun (i : Nat) => D.tup [.int i, xs.getD i .non] := by
  apply List.ext_getElem
  · simp [VL.numbered]
  · intro i h1 h2
    have hi : i < xs.length := by simpa [VL.numbered] using h1
    simp [VL.numbered, List.getD_eq_getElem?_getD, List.getElem?_eq_getElem hi]
theorem numbered_drop {xs : List D} {k : Nat} (h : k < xs.length) : (VL.numbered xs).drop k = .tup [.int k, xs.getD k .non] :: (VL.numbered xs).drop (k + 1) := by
  rw [numbered_eq]
  exact mr_drop h
end KL
namespace KL
open PySem L2 VL
theorem lets_ok : ∀ c ∈ lets.cps.toList, c < 0x110000 := by decide +kernel
theorem word_good {x : Str} (h : isWord (.str x) = true) : PyData.strOk x = true := by
  obtain ⟨_, _, h3⟩ := (word_iff x).mp h
  unfold PyData.strOk
  rw [← Array.all_toList, List.all_eq_true]
  intro c hc
  exact decide_eq_true (lets_ok c (h3 c hc))
theorem goods_iff : ∀ {ds : List D}, goods ds = true ↔ ∀ d ∈ ds, good d = true
  | [] => by simp [goods]
  | d :: ds => by
    simp only [goods, Bool.and_eq_true, goods_iff (ds := ds), List.mem_cons, forall_eq_or_imp]
theorem depthAll_le {n : Nat} : ∀ {ds : List D}, (∀ d ∈ ds, (py d).depth ≤ n) → PyData.depthAll (pys ds) ≤ n
  | [], _ => Nat.zero_le _
  | d :: ds, h => by
    simp only [pys, PyData.depthAll]
    exact Nat.max_le.mpr ⟨h d (by simp), depthAll_le fun e he => h e (by simp [he])⟩
theorem deep_of {d : D} {n : Nat} (h : good d = true ∧ (py d).depth ≤ n) (hn : n ≤ 64) : deepOk d = true := by
  unfold deepOk
  rw [h.1, Bool.true_and]
  exact decide_eq_true (by omega)
theorem eqv_self {d : D} (h : good d = true) : PyData.eqv (py d) (py d) = true := PySem.SeqAt.eqv_refl_plain _ (PyData.plain_of_canLay0 _ (canLay_py d h))
theorem cut_to {α : Type} (xs : List α) {i : Nat} (h : i ≤ xs.length) : cutG xs none (some (i : Int)) = xs.take i := by
  unfold cutG
  rw [six (by omega) (by omega), HT.sIx_none, List.drop_zero, Nat.sub_zero, Int.toNat_natCast]
theorem sizes_TS {ws : List Str} (h : okS ws = true) : isSizes (TS ws) = true := by
  obtain ⟨h1, h2, h3, h4⟩ := okS_of h
  simp only [isSizes, List.length_map, decide_eq_true h1, decide_eq_true h2, Bool.true_and, Bool.and_eq_true]
  refine ⟨?_, ?_⟩
  · rw [List.all_map]
    exact List.all_eq_true.mpr fun x hx => h3 x hx
  · rw [← List.map_drop, List.zip_map, List.all_map]
    exact h4
theorem cl_TS {ws : List Str} (h : okS ws = true) : cl (TS ws) = true ∧ wt (TS ws) ≤ 100000 := by
  obtain ⟨h1, h2, h3, h4⟩ := okS_of h
  refine ⟨?_, ?_⟩
  · show clBs _ _ = true
    rw [cls_iff]
    intro d hd
    obtain ⟨x, hx, rfl⟩ := List.mem_map.mp hd
    exact word_good (h3 x hx)
  · have : ∀ l : List Str, (∀ x ∈ l, isWord (.str x) = true) → wts (l.map .str) ≤ 9 * l.length := by
      intro l
      induction l with
      | nil => intro _; exact Nat.le_refl _
      | cons a l ih =>
        intro h
        have ha := word_len (h a (by simp))
        have := ih fun x hx => h x (by simp [hx])
        simp only [List.map_cons, wts, wt, List.length_cons]
        omega
    have := this ws h3
    simp only [wt]
    omega
end KL
namespace KL
open PySem L2 VL
end KL
namespace KL
open PySem L2 VL
theorem dotL_cons {a b : Int} {p y : List Int} : SX.dotL (a :: p) (b :: y) = a * b + SX.dotL p y := by
  simp [SX.dotL]
end KL
namespace KL
open PySem L2 VL
end KL
namespace KL
open PySem L2 VL
end KL
namespace KL
open PySem L2 VL
theorem dot_zero {k : Nat} : ∀ {y : List Int}, SX.dotL (List.replicate k 0) y = 0 := by
  intro y
  induction k generalizing y with
  | zero => simp [SX.dotL]
  | succ k ih =>
    cases y with
    | nil => simp [SX.dotL]
    | cons a y => rw [List.replicate_succ, dotL_cons, ih]; omega
end KL
namespace KL
open PySem L2 VL
end KL
namespace KL
open PySem L2 VL
theorem pairs_ints {ps ns : List Int} : pairs (ps.map .int) (ns.map .int) = (ps.zip ns).map fun q => D.tup [.int q.1, .int q.2] := by
  unfold pairs
  rw [zipI_map, List.map_map]
  rfl
theorem sm_mul5 {x y : Int} (h : (-5 ≤ x ∧ x ≤ 5) ∨ (-5 ≤ y ∧ y ≤ 5)) : IntMulOk x y := by
  rcases h with h | h
  · exact CMul.ok (.inl ⟨by omega, by omega⟩)
  · exact CMul.ok (.inr ⟨by omega, by omega⟩)
theorem v_law_sum (ds : List D) (st : Ms) (Q : D → Ms → Prop) (E : Exn → Ms → Prop) (h : F_law_sum ds st Q E) : m_law_sum ⟨startE sz_law_sum ds, st⟩ (endsOf Q E) := by
  obtain ⟨ps, ns, rfl, hl, hs, hq⟩ := h
  show m_law_sum ⟨[.dat (TI ps), .dat (TI ns), .un, .un], st⟩ (endsOf Q E)
  refine ⟨true, true, _, _, rfl, rfl, ?_⟩
  rw [pairs_ints]
  refine compR_map (fun d => match d with | .tup [.int a, .int b] => .int (a * b) | _ => .non) _ [] ?_ (fun d hd q hq => ?_) ?_
  · have := List.length_zip (l₁ := ps) (l₂ := ns)
    simp
    omega
  · obtain ⟨⟨a, b⟩, hab, rfl⟩ := List.mem_map.mp hd
    refine ⟨rfl, rfl, sm_mul5 ?_, hq⟩
    rcases hs with hs | hs
    · exact .inl (hs a (List.of_mem_zip hab).1)
    · exact .inr (hs b (List.of_mem_zip hab).2)
  · refine ⟨(ps.zip ns).map fun q : Int × Int => q.1 * q.2, .inl ?_, hq⟩
    rw [List.nil_append, List.map_map, List.map_map]
    rfl
end KL
namespace KL
open PySem L2 VL
end KL
namespace KL
open PySem L2 VL
end KL
namespace KL
open PySem L2 VL
end KL
namespace KL
open PySem L2 VL
end KL
namespace KM
open PySem L2 VL KL
end KM
namespace KM
open PySem L2 VL KL
end KM
namespace KM
open PySem L2 VL KL
end KM
namespace VL
open PySem PySem.Spec PyProof.Rows L2
end VL
namespace VL
open PySem PySem.Spec PyProof.Rows L2
end VL
namespace VL
open PySem L2
end VL
namespace VL
open PySem L2
end VL
namespace VL
open PySem L2
end VL
namespace SS
/-- 0, 1, 6, 31, .. -/
def S : Nat → Nat
  | 0 => 0
  | n + 1 => 5 * S n + 1
/-- the walk from i -/
def it (M i : Nat) : Nat → Nat
  | 0 => i
  | n + 1 => (it M i n * 5 + 1) % M
end SS
namespace SS
open PySem PySem.Spec PyProof.Rows L2
/-- a mask: a power of two less one -/
def Mg (m : Nat) : Prop := ∃ k, 3 ≤ k ∧ m + 1 = 2 ^ k
/-- every entry is found again by its hash -/
structure Tb (t : SetTable) (hs : List Int) : Prop where
  r : Ris t.place.toList
  d : t.dummies = #[]
  z : t.place.size = hs.length
  g : Mg t.mask
  b : ∀ x ∈ t.place.toList, x ≤ t.mask
  f : ∀ (i : Nat) (h : Int) (j : Nat), hs[i]? = some h → t.place.toList[i]? = some j → ∃ k, way t.mask h k = j ∧ ∀ k', k' < k → way t.mask h k' ∈ t.place.toList
end SS
namespace SS
open PySem PySem.Spec PyProof.Rows L2
end SS
namespace SS
open PySem PySem.Spec PyProof.Rows L2
abbrev NK := NestedKey
mutual
def nums : NK → Bool
  | .num _ => true
  | .tup ks => numsA ks
  | _ => false
def numsA : List NK → Bool
  | [] => true
  | k :: ks => nums k && numsA ks
end
section
variable {P : Program} {w : World} {A : Around} {E : Value → Shared → Prop} {s : Shared}
/-- the key at an address -/
def Kat (h : Heap) (k : NK) (a : Addr) : Prop := NestedIs h k (.ref a) ∧ k.depth ≤ 8 ∧ nums k = true
end
end SS
namespace SS
open PySem PySem.Spec PyProof.Rows L2
abbrev En := Addr × NK
def hsh (w : World) (L : List En) : List Int := L.map fun e => e.2.hash w
def ents (w : World) (L : List En) : List (Int × Value) := L.map fun e => (e.2.hash w, Value.ref e.1)
structure SetN (w : World) (h : Heap) (a : Addr) (L : List En) (es : Array (Int × Value)) (ep : Nat) (t : SetTable) : Prop where
  ob : ∃ o, h.get? a = some o ∧ o.ExactSet ∧ o.data = .set es ep t
  en : es.toList = ents w L
  tb : Tb t (hsh w L)
  nd : (L.map Prod.snd).Nodup
  ks : ∀ x ∈ L, Kat h x.2 x.1
  pl : t.plain = true
  ld : w.params.followText "set-order" = true ∨ t.led = true
  rm : L.length * 5 < t.mask * 3
  bg : t.mask ≤ 8191
section
variable {P : Program} {w : World} {A : Around} {E : Value → Shared → Prop} {s : Shared} {a : Addr} {L : List En} {es : Array (Int × Value)} {ep : Nat} {t : SetTable}
theorem SetN.len {h : Heap} (R : SetN w h a L es ep t) : es.size = L.length := by
  have := congrArg List.length R.en
  unfold ents at this
  rw [List.length_map] at this
  exact this
theorem SetN.at_ {h : Heap} (R : SetN w h a L es ep t) {i : Nat} {x : En} (hx : L[i]? = some x) : es[i]? = some (x.2.hash w, Value.ref x.1) := by
  rw [← Array.getElem?_toList, R.en, ents, List.getElem?_map, hx]
  rfl
end
end SS
namespace SS
open PySem PySem.Spec PyProof.Rows L2
section
variable {P : Program} {w : World} {A : Around} {E : Value → Shared → Prop} {s : Shared} {a : Addr} {L : List En} {es : Array (Int × Value)} {ep : Nat} {t : SetTable}
theorem Kat.but {h h' : Heap} {k : NK} {b : Addr} {o : Obj} (x : Kat h k b) (ho : h.get? a = some o) (hd : o.data = .set es ep t) (sb : Heap.SameBut a h h') : Kat h' k b := by
  refine ⟨NestedIs.at (fun c u vs n h1 h2 => ?_) k _ x.1, x.2⟩
  refine (sb.2 c fun z => ?_).trans h1
  rw [z, ho] at h1
  cases h1
  rw [hd] at h2
  cases h2
theorem Kat.up {h h' : Heap} {k : NK} {b : Addr} (x : Kat h k b) (hk : ∀ c o, h.get? c = some o → h'.get? c = some o) : Kat h' k b := ⟨NestedIs.at (fun c u _ _ h1 _ => hk c u h1) k _ x.1, x.2⟩
end
end SS
namespace SS
open PySem PySem.Spec PyProof.Rows L2
/-- what stands in the set behind the first i -/
structure Gone (ks : List En) (i : Nat) (L : List En) : Prop where
  sub : ∀ e ∈ L, e ∈ ks.take i
  all : ∀ e ∈ ks.take i, e.2 ∈ L.map Prod.snd
  len : L.length ≤ i
theorem upto {α : Type} {l : List α} {i : Nat} {x : α} (h : l[i]? = some x) : l.take (i + 1) = l.take i ++ [x] := by
  rw [List.take_add_one, h]
  rfl
theorem Gone.next {ks L L' : List En} {i : Nat} {e : En} (g : Gone ks i L) (h : ks[i]? = some e) (old : e.2 ∈ L.map Prod.snd → L' = L) (new : e.2 ∉ L.map Prod.snd → L'.Perm (e :: L)) : Gone ks (i + 1) L' := by
  have hl := g.len
  by_cases c : e.2 ∈ L.map Prod.snd
  · rw [old c]
    refine ⟨fun y hy => ?_, fun y hy => ?_, by omega⟩
    · rw [upto h]
      exact List.mem_append_left _ (g.sub y hy)
    · rw [upto h] at hy
      rcases List.mem_append.mp hy with z | z
      · exact g.all y z
      · rw [List.mem_singleton.mp z]
        exact c
  · have pm := new c
    refine ⟨fun y hy => ?_, fun y hy => ?_, by rw [pm.length_eq, List.length_cons]; omega⟩
    · rw [upto h]
      rcases List.mem_cons.mp (pm.mem_iff.mp hy) with z | z
      · rw [z]
        exact List.mem_append_right _ (List.mem_singleton.mpr rfl)
      · exact List.mem_append_left _ (g.sub y z)
    · rw [(pm.map Prod.snd).mem_iff, List.map_cons, List.mem_cons]
      rw [upto h] at hy
      rcases List.mem_append.mp hy with z | z
      · exact .inr (g.all y z)
      · exact .inl (by rw [List.mem_singleton.mp z])
section
variable {P : Program} {w : World} {A : Around} {E : Value → Shared → Prop} {s : Shared}
theorem SetN.up {h h' : Heap} {a : Addr} {L : List En} {es : Array (Int × Value)} {ep : Nat} {t : SetTable} (R : SetN w h a L es ep t) (ha : ∀ o, h.get? a = some o → h'.get? a = some o) (hk : ∀ e ∈ L, Kat h' e.2 e.1) : SetN w h' a L es ep t := by
  obtain ⟨o, ho, r⟩ := R.ob
  exact ⟨⟨o, ha o ho, r⟩, R.en, R.tb, R.nd, hk, R.pl, R.ld, R.rm, R.bg⟩
theorem SetN.new {h : Heap} {a : Addr} (ho : h.get? a = some (VL.set0 w)) : SetN w h a [] #[] 0 (.fresh 0 0 (!w.params.followText "set-order")) where
  ob := ⟨_, ho, ⟨rfl, rfl, rfl⟩, rfl⟩
  en := rfl
  tb := ⟨List.Pairwise.nil, rfl, rfl, ⟨3, Nat.le_refl _, rfl⟩, fun x hx => (nomatch hx), fun i h j hi => by simp [hsh] at hi⟩
  nd := List.nodup_nil
  ks := fun e he => (nomatch he)
  pl := rfl
  ld := by
    show _ ∨ (!w.params.followText "set-order") = true
    cases w.params.followText "set-order"
    · exact .inr rfl
    · exact .inl rfl
  rm := by show 0 * 5 < 7 * 3; decide
  bg := by show 7 ≤ 8191; decide
end
end SS
namespace SS
open PySem PySem.Spec PyProof.Rows L2
end SS
namespace SS
open PySem PySem.Spec PyProof.Rows L2 VL
mutual
inductive KyV (K : PySem.W.Frag) (H : Hp) : NK → V → Prop
  | num (i : Int) : KyV K H (.num i) (.int i)
  | tup {ks : List NK} {a : Addr} {vs : List V} : SqT K H a vs → KyVs K H ks vs → KyV K H (.tup ks) (.ref a)
inductive KyVs (K : PySem.W.Frag) (H : Hp) : List NK → List V → Prop
  | nil : KyVs K H [] []
  | cons {k : NK} {v : V} {ks : List NK} {vs : List V} : KyV K H k v → KyVs K H ks vs → KyVs K H (k :: ks) (v :: vs)
end
mutual
theorem KyV.ext {K : PySem.W.Frag} {H H' : Hp} (e : ∀ a xs, SqT K H a xs → SqT K H' a xs) : ∀ (k : NK) (v : V), KyV K H k v → KyV K H' k v
  | .none, _, x => nomatch x
  | .text _, _, x => nomatch x
  | .num i, _, x => by
    cases x
    exact .num i
  | .tup ks, _, x => by
    cases x with
    | tup h1 h2 => exact .tup (e _ _ h1) (KyVs.ext e ks _ h2)
theorem KyVs.ext {K : PySem.W.Frag} {H H' : Hp} (e : ∀ a xs, SqT K H a xs → SqT K H' a xs) : ∀ (ks : List NK) (vs : List V), KyVs K H ks vs → KyVs K H' ks vs
  | [], _, x => by
    cases x
    exact .nil
  | k :: ks, _, x => by
    cases x with
    | cons x1 x2 => exact .cons (KyV.ext e k _ x1) (KyVs.ext e ks _ x2)
end
end SS
namespace SS
section
variable {T : Type} [DecidableEq T]
def ins (lt : T → T → Bool) (x : T) : List T → List T
  | [] => [x]
  | y :: ys => if lt x y = true then x :: y :: ys else if x = y then y :: ys else y :: ins lt x ys
/-- a strict order of all -/
structure Tot (lt : T → T → Bool) : Prop where
  ir : ∀ x, lt x x = false
  tr : ∀ x y z, lt x y = true → lt y z = true → lt x z = true
  ro : ∀ x y, lt x y = false → lt y x = false → x = y
variable {lt : T → T → Bool}
end
end SS
namespace SS
open PySem PySem.Spec PyProof.Rows L2 VL
/-- a way to tell things as trees -/
structure Ed (T : Type) [DecidableEq T] where
  d : T → D
  k : T → NK
  lt : T → T → Bool
  tot : Tot lt
  inj : ∀ x y, k x = k y → x = y
  al : ∀ x y, PySem.W.alike (k x).data (k y).data = true
  lo : ∀ x y, PySem.W.dataLt (k x).data (k y).data = lt x y
  dk : ∀ x, (k x).depth ≤ 8
  dd : ∀ x, (k x).data.depth ≤ 8
  ky : ∀ (K : PySem.W.Frag) (g : Gh) (H : Hp), Same g.G H → ∀ x v, DV K g (d x) v → KyV K H (k x) v
  rf : ∀ (K : PySem.W.Frag) (g : Gh) x v, DV K g (d x) v → ∃ a, v = .ref a
end SS
namespace SS
open PySem PySem.Spec PyProof.Rows L2 VL
end SS
namespace VL
open PySem L2
end VL
namespace KP
open PySem L2 VL KL SS
def intsL : List D → List Int
  | [] => []
  | .int i :: r => i :: intsL r
  | _ :: r => intsL r
end KP
namespace KP
open PySem L2 VL KL KM SS
end KP
namespace KP
open PySem L2 VL KL SS
theorem compR_mapT {T : Type} {e : List Slot} {tgt : MG} {me : M D} {n : Ms} {Q : List D → Ms → Prop} (enc f : T → D) : ∀ (xs : List T) (acc : List D), acc.length + xs.length ≤ 1000000 →
    (∀ x ∈ xs, ∀ q : D → Ms → Prop, q (f x) n → tgt (enc x) ⟨e, n⟩ fun s1 => me s1 (fun y s3 => q y s3.n) fun _ _ => False) → Q (acc ++ xs.map f) n → compR e tgt mYes me (xs.map enc) n acc Q
  | [], acc, _, _, h => by simpa [compR] using h
  | x :: xs, acc, hl, hs, h => by
    rw [List.length_cons] at hl
    refine hs x (by simp) (fun y n' => acc.length < sizeLine ∧ compR e tgt mYes me (xs.map enc) n' (acc ++ [y]) Q) ⟨Nat.lt_of_le_of_lt (show acc.length ≤ 1000000 by omega) (by decide), ?_⟩
    exact compR_mapT enc f xs (acc ++ [f x]) (by rw [List.length_append, List.length_singleton]; omega) (fun y hy => hs y (by simp [hy])) (by simpa using h)
theorem compR_filterT {T : Type} {e : List Slot} {tgt : MG} {tt : M Bool} {me : M D} {n : Ms} {Q : List D → Ms → Prop} (enc : T → D) (p : T → Bool) : ∀ (xs : List T) (acc : List D), acc.length + xs.length ≤ 1000000 →
    (∀ x ∈ xs, ∀ q : D → Ms → Prop, ∀ r : Ms → Prop, (p x = true → q (enc x) n) → (p x = false → r n) → tgt (enc x) ⟨e, n⟩ fun s1 => tt s1 (fun b s2 => if b = true then me s2 (fun y s3 => q y s3.n) (fun _ _ => False) else r s2.n) fun _ _ => False) →
    Q (acc ++ (xs.filter p).map enc) n → compR e tgt tt me (xs.map enc) n acc Q
  | [], acc, _, _, h => by simpa [compR] using h
  | x :: xs, acc, hl, hs, h => by
    rw [List.length_cons] at hl
    refine hs x (by simp) (fun y n' => acc.length < sizeLine ∧ compR e tgt tt me (xs.map enc) n' (acc ++ [y]) Q) (fun n' => compR e tgt tt me (xs.map enc) n' acc Q) (fun hp => ⟨Nat.lt_of_le_of_lt (show acc.length ≤ 1000000 by omega) (by decide), ?_⟩) fun hp => ?_
    · exact compR_filterT enc p xs (acc ++ [enc x]) (by rw [List.length_append, List.length_singleton]; omega) (fun y hy => hs y (by simp [hy])) (by rw [List.filter_cons, if_pos hp] at h; simpa using h)
    · exact compR_filterT enc p xs acc (by omega) (fun y hy => hs y (by simp [hy])) (by rw [List.filter_cons, if_neg (by simp [hp])] at h; exact h)
theorem goods_ints : ∀ xs : List Int, goods (xs.map .int) = true
  | [] => rfl
  | x :: xs => by rw [List.map_cons, goods, good, goods_ints xs]; rfl
end KP
namespace KP
open PySem L2 VL KL SS
theorem intsL_map : ∀ ps : List Int, intsL (ps.map .int) = ps
  | [] => rfl
  | p :: ps => by rw [List.map_cons, intsL, intsL_map ps]
end KP
namespace KP
open PySem L2 VL KL SS
theorem p5 {f : Nat} (h : f ≤ 5) : 4 ^ f ≤ 1024 := Nat.le_trans (Nat.pow_le_pow_right (by decide) h) (by decide)
end KP
namespace KP
open PySem L2 VL KL SS
end KP
namespace KP
open PySem L2 VL KL KM SS
end KP
namespace KP
open PySem L2 VL KL SS
end KP
namespace KP
open PySem L2 VL KL SS
end KP
namespace KP
open PySem L2 VL KL SS
/-- a node of a speed: what is in it, if it may stand there -/
def nodeOk (k : Int) : D → Option (List D)
  | .tup [h, .tup cs] => if isSt "product" h then (if areNums k (.tup cs) then some [] else none)
    else if (isSt "greatest" h || isSt "least" h) && (decide (1 ≤ cs.length) && decide (cs.length ≤ 4)) then some cs else none
  | _ => none
def isSp (k : Int) : Nat → D → Bool
  | 0, _ => false
  | j + 1, d => match nodeOk k d with
    | none => false
    | some cs => cs.all (isSp k j)
end KP
namespace KP
open PySem L2 VL KL KM SS
end KP
namespace KP
open PySem L2 VL KL SS
theorem ite_no {c : Prop} [Decidable c] {a b : Prop} (h : ¬ c) (hb : b) : if c then a else b := by rw [if_neg h]; exact hb
theorem ite_yes {c : Prop} [Decidable c] {a b : Prop} (h : c) (ha : a) : if c then a else b := by rw [if_pos h]; exact ha
theorem ite_b {c : Bool} {a b : Prop} (ha : c = true → a) (hb : c = false → b) : if c = true then a else b := by
  cases c with
  | true => exact ha rfl
  | false => exact hb rfl
def enc (q : D × Nat) : D := .tup [q.1, .int q.2]
theorem nodeOk_some {k : Int} {d : D} {cs : List D} (h : nodeOk k d = some cs) : ∃ hd ds, d = .tup [hd, .tup ds] ∧ ((isSt "product" hd = true ∧ areNums k (.tup ds) = true ∧ cs = []) ∨
    (isSt "product" hd = false ∧ (isSt "greatest" hd || isSt "least" hd) = true ∧ 1 ≤ ds.length ∧ ds.length ≤ 4 ∧ cs = ds)) := by
  unfold nodeOk at h
  split at h
  · rename_i hd ds
    refine ⟨hd, ds, rfl, ?_⟩
    by_cases h1 : isSt "product" hd = true
    · rw [if_pos h1] at h
      by_cases h2 : areNums k (.tup ds) = true
      · rw [if_pos h2] at h
        exact .inl ⟨h1, h2, (Option.some.inj h).symm⟩
      · rw [if_neg h2] at h
        cases h
    · rw [if_neg h1] at h
      split at h
      · rename_i h3
        simp only [Bool.and_eq_true, decide_eq_true_eq] at h3
        exact .inr ⟨by simpa using h1, h3.1, h3.2.1, h3.2.2, (Option.some.inj h).symm⟩
      · cases h
  · cases h
theorem nodeOk_2 {k : Int} {a : D} {cs : List D} : nodeOk k (.tup [a, .tup cs]) = if isSt "product" a then (if areNums k (.tup cs) then some [] else none)
    else if (isSt "greatest" a || isSt "least" a) && (decide (1 ≤ cs.length) && decide (cs.length ≤ 4)) then some cs else none := rfl
theorem part_ok {es : List D} (hc : cl (.tup es) = true) (hw : wt (.tup es) ≤ 100000) : ∀ e ∈ es, cl e = true ∧ wt e ≤ 100000 := by
  intro e he
  have hcs : ∀ d ∈ es, cl d = true := cls_iff.mp (by simpa [clB] using hc)
  have := wt_mem he
  simp only [wt] at hw
  exact ⟨hcs e he, by omega⟩
end KP
namespace KP
open PySem L2 VL KL SS
theorem nums_ints {k : Int} {ds : List D} (h : areNums k (.tup ds) = true) : ds = (intsL ds).map .int ∧ ((intsL ds).length : Int) = k := by
  simp only [areNums, Bool.and_eq_true, beq_iff_eq] at h
  have e : ∀ ds : List D, ds.all isNum = true → ds = (intsL ds).map .int := by
    intro ds
    induction ds with
    | nil => intro _; rfl
    | cons d r ih =>
      intro h
      simp only [List.all_cons, Bool.and_eq_true] at h
      cases d <;> first | (cases h.1; done) | skip
      simp only [intsL, List.map_cons]
      rw [← ih h.2]
  have e1 := e ds h.2
  refine ⟨e1, ?_⟩
  rw [← h.1]
  conv => rhs; rw [e1]
  rw [List.length_map]
end KP
namespace KP
open PySem L2 VL KL SS
def maxI : List Int → Int
  | [] => 0
  | x :: r => r.foldl max x
def minI : List Int → Int
  | [] => 0
  | x :: r => r.foldl min x
def weightD (ns : List Int) : Nat → D → Int
  | 0, _ => 0
  | j + 1, .tup [h, .tup cs] => if isSt "product" h then SX.dotL (intsL cs) ns else if isSt "greatest" h then maxI (cs.map (weightD ns j)) else minI (cs.map (weightD ns j))
  | _, _ => 0
def F_law_weight : Nat → FT
  | 0 => fun _ _ _ _ => False
  | j + 1 => fun ds st Q _ => ∃ (k : Nat) (d : D) (ns : List Int), ds = [d, TI ns] ∧ k ≤ 100 ∧ ns.length = k ∧ sm5 ns ∧ isSp k j d = true ∧ Q (.int (weightD ns j d)) st
def odds : List D := [.non, .int 0, .int 1, .int 2, .int 3, .int (-1), .int 1001, .int (-10), .bl true, .bl false, .str "", .str "a", .str "above", .str "least", .str "hand", .str "mesh", .tup [], .tup [.tup []]] ++
  [.tup [.str "a", .int 0], .lst [], .dct [], .int (10 ^ 30), .tup [.str "alike"], .tup [.str "product", .tup []], .str "a1", .tup [.non], .tup [.int 0], .tup [.int 0, .int 0], .tup [.str "a", .str "b"]]
def F_law_odd : FT := fun ds st Q _ => ds = [.drw] ∧ st.n < LIM ∧ ∀ (d : D) (n' : Nat), d ∈ odds → n' ≤ st.n + 1 → Q d ⟨n', st.h⟩
end KP
namespace KP
open PySem L2 VL KL KM SS
abbrev sz_law_weight : Nat := 4
def m_law_weight (Frec : FT) : MS :=
  (mSeq (mIfS (mTst (mOp eqTP (mOp idxD (mVar 0) (mC (.int 0))) (mC (.str "product")))) (mRet (mCall 2 F_law_sum (mCons (mOp idxD (mVar 0) (mC (.int 1))) (mCons (mVar 1) mNil)))) mNext)
  (mSeq (mSet 2 (mComp [3] (mIt itT (mOp idxD (mVar 0) (mC (.int 1)))) (gN 3) mYes (mCall 2 Frec (mCons (mVar 3) (mCons (mVar 1) mNil)))))
  (mRet (mIf (mTst (mOp eqTP (mOp idxD (mVar 0) (mC (.int 0))) (mC (.str "greatest")))) (mB maxD (mCons (mVar 2) mNil)) (mB minD (mCons (mVar 2) mNil))))))
abbrev sz_law_odd : Nat := 2
def m_law_odd : MS :=
  (mSeq (mSet 1 (mLst (mCons (mC .non) (mCons (mC (.int 0)) (mCons (mC (.int 1)) (mCons (mC (.int 2)) (mCons (mC (.int 3)) (mCons (mUn negD (mC (.int 1))) (mCons (mC (.int 1001)) (mCons (mUn negD (mC (.int 10))) (mCons (mC (.bl true)) (mCons (mC (.bl false)) (mCons (mC (.str "")) (mCons (mC (.str "a")) (mCons (mC (.str "above")) (mCons (mC (.str "least")) (mCons (mC (.str "hand")) (mCons (mC (.str "mesh")) (mCons (mTup mNil) (mCons (mTup (mCons (mTup mNil) mNil)) mNil))))))))))))))))))))
  (mSeq (mSet 1 (mOp addD (mVar 1) (mLst (mCons (mTup (mCons (mC (.str "a")) (mCons (mC (.int 0)) mNil))) (mCons (mLst mNil) (mCons (mC (.dct [])) (mCons (mOp (dI CPow fun i j => .int (i ^ j.toNat)) (mC (.int 10)) (mC (.int 30))) (mCons (mTup (mCons (mC (.str "alike")) mNil)) (mCons (mTup (mCons (mC (.str "product")) (mCons (mTup mNil) mNil))) (mCons (mC (.str "a1")) (mCons (mTup (mCons (mC .non) mNil)) (mCons (mTup (mCons (mC (.int 0)) mNil)) (mCons (mTup (mCons (mC (.int 0)) (mCons (mC (.int 0)) mNil))) (mCons (mTup (mCons (mC (.str "a")) (mCons (mC (.str "b")) mNil))) mNil))))))))))))))
  (mRet (mOp idxD (mVar 1) (mCall 2 F_law_next (mCons (mVar 0) (mCons (mC (.int 29)) mNil)))))))
end KP
namespace KP
open PySem L2 VL KL SS
theorem st_kn {x : Str} {d : D} (h : isSt x d = true) : knD d = true := by
  cases d <;> first | (cases h; done) | rfl
theorem gl_kn {d : D} (h : (isSt "greatest" d || isSt "least" d) = true) : knD d = true := by
  rcases Bool.or_eq_true _ _ |>.mp h with h | h <;> exact st_kn h
theorem foldl_max : ∀ (r : List Int) (x : Int), (r.foldl max x = x ∨ r.foldl max x ∈ r) ∧ x ≤ r.foldl max x ∧ ∀ y ∈ r, y ≤ r.foldl max x
  | [], x => ⟨.inl rfl, Int.le_refl _, fun _ z => (nomatch z)⟩
  | a :: r, x => by
    obtain ⟨h1, h2, h3⟩ := foldl_max r (max x a)
    simp only [List.foldl_cons]
    refine ⟨?_, by omega, fun y hy => ?_⟩
    · rcases h1 with h1 | h1
      · rw [h1]
        rcases Int.le_total x a with l | l
        · exact .inr (by rw [Int.max_eq_right l]; simp)
        · exact .inl (Int.max_eq_left l)
      · exact .inr (by simp [h1])
    · rcases List.mem_cons.mp hy with rfl | hy
      · omega
      · exact h3 y hy
theorem foldl_min : ∀ (r : List Int) (x : Int), (r.foldl min x = x ∨ r.foldl min x ∈ r) ∧ r.foldl min x ≤ x ∧ ∀ y ∈ r, r.foldl min x ≤ y
  | [], x => ⟨.inl rfl, Int.le_refl _, fun _ z => (nomatch z)⟩
  | a :: r, x => by
    obtain ⟨h1, h2, h3⟩ := foldl_min r (min x a)
    simp only [List.foldl_cons]
    refine ⟨?_, by omega, fun y hy => ?_⟩
    · rcases h1 with h1 | h1
      · rw [h1]
        rcases Int.le_total x a with l | l
        · exact .inl (Int.min_eq_left l)
        · exact .inr (by rw [Int.min_eq_right l]; simp)
      · exact .inr (by simp [h1])
    · rcases List.mem_cons.mp hy with rfl | hy
      · omega
      · exact h3 y hy
theorem maxI_eq {bs : List Int} {m : Int} (hm : m ∈ bs) (hu : ∀ y ∈ bs, y ≤ m) : maxI bs = m := by
  cases bs with
  | nil => cases hm
  | cons x r =>
    obtain ⟨h1, h2, h3⟩ := foldl_max r x
    show r.foldl max x = m
    have a : r.foldl max x ≤ m := by
      rcases h1 with h1 | h1
      · rw [h1]; exact hu x (by simp)
      · exact hu _ (by simp [h1])
    have b : m ≤ r.foldl max x := by
      rcases List.mem_cons.mp hm with rfl | hm
      · exact h2
      · exact h3 m hm
    omega
theorem minI_eq {bs : List Int} {m : Int} (hm : m ∈ bs) (hu : ∀ y ∈ bs, m ≤ y) : minI bs = m := by
  cases bs with
  | nil => cases hm
  | cons x r =>
    obtain ⟨h1, h2, h3⟩ := foldl_min r x
    show r.foldl min x = m
    have a : m ≤ r.foldl min x := by
      rcases h1 with h1 | h1
      · rw [h1]; exact hu x (by simp)
      · exact hu _ (by simp [h1])
    have b : r.foldl min x ≤ m := by
      rcases List.mem_cons.mp hm with rfl | hm
      · exact h2
      · exact h3 m hm
    omega
theorem v_law_weight (j : Nat) (ds : List D) (n : Ms) (Q : D → Ms → Prop) (E : Exn → Ms → Prop) (h : F_law_weight (j + 1) ds n Q E) : m_law_weight (F_law_weight j) ⟨startE sz_law_weight ds, n⟩ (endsOf Q E) := by
  obtain ⟨k, d, ps, rfl, hk, hl, hb, hs, hq⟩ := h
  cases j with
  | zero => cases hs
  | succ j =>
  simp only [isSp] at hs
  cases hn : nodeOk k d with
  | none => rw [hn] at hs; cases hs
  | some cs =>
  rw [hn] at hs
  obtain ⟨hd, ds, rfl, ⟨h1, h2, rfl⟩ | ⟨h1, h2, h3, h4, rfl⟩⟩ := nodeOk_some hn
  · refine ⟨hd, rfl, st_kn h1, _, rfl, ?_⟩
    refine ite_yes h1 ?_
    obtain ⟨e1, e2⟩ := nums_ints h2
    refine ⟨.tup ds, rfl, rfl, intsL ds, ps, by simp only [KL.TI, ← e1], by omega, .inr hb, ?_⟩
    simp only [weightD, h1, if_true] at hq
    exact hq
  · refine ⟨hd, rfl, gl_kn h2, _, rfl, ?_⟩
    refine ite_no (by rw [h1]; decide) ?_
    refine ⟨.tup cs, rfl, ?_⟩
    refine compR_map (fun d => .int (weightD ps j d)) cs [] (by simp; omega) (fun d hd' q hq' => ?_) ?_
    · exact ⟨rfl, k, d, ps, rfl, hk, hl, hb, List.all_eq_true.mp hs d hd', hq'⟩
    simp only [weightD, h1, Bool.false_eq_true, if_false] at hq
    have e : ([] : List D) ++ cs.map (fun d => .int (weightD ps j d)) = (cs.map (weightD ps j)).map .int := by simp
    rw [e]
    refine ⟨hd, rfl, gl_kn h2, _, rfl, ?_⟩
    refine ite_b (fun hg => ?_) (fun hg => ?_)
    · refine ⟨cs.map (weightD ps j), rfl, by rw [List.length_map]; omega, fun m hm hu => ?_⟩
      rw [hg, if_pos rfl, maxI_eq hm hu] at hq
      exact hq
    · refine ⟨cs.map (weightD ps j), rfl, by rw [List.length_map]; omega, fun m hm hu => ?_⟩
      rw [hg, if_neg (by decide), minI_eq hm hu] at hq
      exact hq
theorem odds_ok : ∀ d ∈ odds, clB (10 ^ 30) d = true ∧ dp d ≤ 2 ∧ wt d ≤ 200 := by
  have h : odds.all (fun d => clB (10 ^ 30) d && (decide (dp d ≤ 2) && decide (wt d ≤ 200))) = true := by decide +kernel
  intro d hd
  have := List.all_eq_true.mp h d hd
  simp only [Bool.and_eq_true, decide_eq_true_eq] at this
  exact this
theorem v_law_odd (ds : List D) (n : Ms) (Q : D → Ms → Prop) (E : Exn → Ms → Prop) (h : F_law_odd ds n Q E) : m_law_odd ⟨startE sz_law_odd ds, n⟩ (endsOf Q E) := by
  obtain ⟨rfl, hn, hq⟩ := h
  show m_law_odd ⟨[.dat .drw, .un], n⟩ (endsOf Q E)
  refine ⟨by decide, by decide, by decide, by decide, by decide, by decide, ⟨by decide, by decide⟩, by decide, by decide, by decide, by decide, by decide, by decide, by decide, by decide, by decide, rfl, 29, rfl, by decide, by decide, hn, fun r n' r0 r1 hn' => ?_⟩
  obtain ⟨x, hx, e⟩ := atI_some (xs := odds) (i := r) r0 (by show r < 29; exact r1)
  exact ⟨x, e, hq x n' hx hn'⟩
end KP
namespace KP
open PySem L2 VL KL SS
end KP
namespace KP
open PySem L2 VL KL SS
theorem maxI_top {bs : List Int} (h : bs ≠ []) : maxI bs ∈ bs ∧ ∀ y ∈ bs, y ≤ maxI bs := by
  cases bs with
  | nil => exact absurd rfl h
  | cons x r =>
    obtain ⟨h1, h2, h3⟩ := foldl_max r x
    refine ⟨?_, fun y hy => ?_⟩
    · rcases h1 with h1 | h1
      · show r.foldl max x ∈ _
        rw [h1]
        simp
      · exact List.mem_cons_of_mem _ h1
    · rcases List.mem_cons.mp hy with rfl | hy
      · exact h2
      · exact h3 y hy
theorem minI_low {bs : List Int} (h : bs ≠ []) : minI bs ∈ bs ∧ ∀ y ∈ bs, minI bs ≤ y := by
  cases bs with
  | nil => exact absurd rfl h
  | cons x r =>
    obtain ⟨h1, h2, h3⟩ := foldl_min r x
    refine ⟨?_, fun y hy => ?_⟩
    · rcases h1 with h1 | h1
      · show r.foldl min x ∈ _
        rw [h1]
        simp
      · exact List.mem_cons_of_mem _ h1
    · rcases List.mem_cons.mp hy with rfl | hy
      · exact h2
      · exact h3 y hy
theorem max_le {bs : List Int} (h : bs ≠ []) (t : Int) : maxI bs ≤ t ↔ ∀ b ∈ bs, b ≤ t :=
  ⟨fun e b hb => Int.le_trans ((maxI_top h).2 b hb) e, fun e => e _ (maxI_top h).1⟩
end KP
namespace KP
open PySem L2 VL KL SS
end KP
namespace KP
open PySem L2 VL KL KM SS
end KP
namespace KP
open PySem L2 VL KL SS
theorem ints_cl {b : Nat} {ps : List Int} (h : ∀ p ∈ ps, p.natAbs ≤ b) : clBs b (ps.map D.int) = true := cls_iff.mpr fun d hd => by
  obtain ⟨p, hp, rfl⟩ := List.mem_map.mp hd
  simpa [clB] using h p hp
theorem ints_areN {k : Nat} {ps : List Int} (h : ps.length = k) : areNums k (.tup (ps.map .int)) = true := by
  simp only [areNums, Bool.and_eq_true, beq_iff_eq, List.length_map, h, true_and]
  refine List.all_eq_true.mpr fun d hd => ?_
  obtain ⟨p, hp, rfl⟩ := List.mem_map.mp hd
  rfl
theorem isSt_self (x : Str) : isSt x (.str x) = true := by simp [isSt]
end KP
namespace KP
open PySem L2 VL KL SS
end KP
namespace KP
open PySem L2 VL KL KM SS
end KP
namespace KP
open PySem L2 VL KL KM SS
/-- a row of things: clean, so deep, so heavy -/
structure Ok (b k w : Nat) (ds : List D) : Prop where
  c : ∀ d ∈ ds, clB b d = true
  d : ∀ d ∈ ds, dp d ≤ k
  w : wts ds ≤ w
theorem Ok.app {b k w w' : Nat} {xs ys : List D} (h : Ok b k w xs) (h' : Ok b k w' ys) : Ok b k (w + w') (xs ++ ys) :=
  ⟨fun d hd => (List.mem_append.mp hd).elim (h.c d) (h'.c d), fun d hd => (List.mem_append.mp hd).elim (h.d d) (h'.d d), by rw [wts_app]; exact Nat.add_le_add h.w h'.w⟩
theorem Ok.cut {b k w : Nat} {xs : List D} (h : Ok b k w xs) (lo hi : Option Int) : Ok b k w (cutG xs lo hi) :=
  have m : ∀ d ∈ cutG xs lo hi, d ∈ xs := fun d hd => List.mem_of_mem_drop (List.mem_of_mem_take hd)
  ⟨fun d hd => h.c d (m d hd), fun d hd => h.d d (m d hd), Nat.le_trans (Nat.le_trans (wts_take _ _) (wts_drop _ _)) h.w⟩
theorem Ok.one {b k w : Nat} {d : D} (h1 : clB b d = true) (h2 : dp d ≤ k) (h3 : wt d ≤ w) : Ok b k w [d] :=
  ⟨fun e he => by rw [List.mem_singleton.mp he]; exact h1, fun e he => by rw [List.mem_singleton.mp he]; exact h2, by simpa [wts] using h3⟩
theorem Ok.mono {b k w b' k' w' : Nat} {ds : List D} (h : Ok b k w ds) (hb : b ≤ b') (hk : k ≤ k') (hw : w ≤ w') : Ok b' k' w' ds :=
  ⟨fun d hd => clB_mono hb d (h.c d hd), fun d hd => Nat.le_trans (h.d d hd) hk, Nat.le_trans h.w hw⟩
theorem Ok.tup {b k w : Nat} {ds : List D} (h : Ok b k w ds) : clB b (.tup ds) = true ∧ dp (.tup ds) ≤ k + 1 ∧ wt (.tup ds) ≤ 1 + w :=
  ⟨by simpa [clB] using cls_iff.mpr h.c, dp_tup h.d, by simp only [wt]; exact Nat.add_le_add_left h.w 1⟩
theorem Ok.lst {b k w : Nat} {ds : List D} (h : Ok b k w ds) : clB b (.lst ds) = true ∧ dp (.lst ds) ≤ k + 1 ∧ wt (.lst ds) ≤ 1 + w :=
  ⟨by simpa [clB] using cls_iff.mpr h.c, dp_lst h.d, by simp only [wt]; exact Nat.add_le_add_left h.w 1⟩
theorem Ok.len {b k w : Nat} {ds : List D} (h : Ok b k w ds) : ds.length ≤ w := Nat.le_trans (len_wts ds) h.w
theorem Ok.of {b : Nat} {ds : List D} (h : clB b (.tup ds) = true) : Ok b (dp (.tup ds) - 1) (wt (.tup ds) - 1) ds :=
  ⟨cls_iff.mp (by simpa [clB] using h), fun d hd => by have := dp_mem hd; omega, by simp only [wt]; omega⟩
theorem cut_to {es : List D} {a : Int} (h0 : 0 ≤ a) (h1 : a ≤ es.length) : cutG es none (some a) = es.take a.toNat := by
  unfold cutG
  rw [six h0 h1]
  show (es.drop 0).take (a.toNat - 0) = _
  simp
end KP
namespace VL
open PySem L2
/-- what stands at an address is called so -/
def HasV (P : Program) (w : World) (K : PySem.W.Frag) (mg : Str → Option Value) (base : Heap) (f : Addr) (k n : Nat) (F : FT) : Prop :=
  ∃ fd ps, PySem.W.keepIn K (.ref f) = true ∧ ps.length = n ∧ Binds K fd ps [] ∧ FnG P w K mg base k f fd ps (spOf K n F)
theorem Has.at {P : Program} {w : World} {K : PySem.W.Frag} {mg : Str → Option Value} {base : Heap} {x : Str} {k n : Nat} {F : FT} {f : Addr} (h : Has P w K mg base x k n F) (hm : mg x = some (.ref f)) : HasV P w K mg base f k n F := by
  obtain ⟨f', fd, ps, h1, h2, h3, h4, h5⟩ := h
  rw [hm] at h1
  cases h1
  exact ⟨fd, ps, h2, h3, h4, h5⟩
theorem HasV.up {P : Program} {w : World} {K : PySem.W.Frag} {mg : Str → Option Value} {base : Heap} {f : Addr} {j k n : Nat} {F : FT} (h : HasV P w K mg base f j n F) (hk : j ≤ k) : HasV P w K mg base f k n F := by
  obtain ⟨fd, ps, h2, h3, h4, h5⟩ := h
  exact ⟨fd, ps, h2, h3, h4, h5.up hk⟩
end VL
namespace VL
open PySem PySem.Spec PyProof.Rows L2
end VL
namespace VL
open PySem L2
mutual
/-- no list, no dict within -/
def noL : D → Bool
  | .non | .bl _ | .int _ | .str _ => true
  | .tup ds => noLs ds
  | .ins _ fs => noLf fs
  | _ => false
def noLs : List D → Bool
  | [] => true
  | d :: ds => noL d && noLs ds
def noLf : List (Str × D) → Bool
  | [] => true
  | q :: ds => noL q.2 && noLf ds
end
end VL
namespace VL
open PySem L2
end VL
namespace VL
open PySem L2
end VL
namespace VL
open PySem L2
end VL
namespace VL
open PySem L2
end VL
namespace VL
open PySem L2
end VL
namespace VL
open PySem PySem.Spec PyProof.Rows L2
section
variable {X : Cx} {B : Bs} {W : WX} {a : Expr} {ma : M D} {p pos : Pos}
theorem foldl_min (n : Int) (ns : List Int) : ns.foldl min n ∈ n :: ns ∧ ∀ y ∈ n :: ns, ns.foldl min n ≤ y := by
  induction ns generalizing n with
  | nil => exact ⟨by simp, fun y hy => by simp at hy; simp [hy]⟩
  | cons k r ih =>
    obtain ⟨h1, h2⟩ := ih (min n k)
    rw [List.foldl_cons]
    refine ⟨?_, fun y hy => ?_⟩
    · rcases List.mem_cons.mp h1 with e | e
      · rw [e]
        by_cases c : n ≤ k
        · rw [Int.min_eq_left c]; simp
        · rw [Int.min_eq_right (by omega)]; simp
      · simp [e]
    · have hm := h2 (min n k) (by simp)
      rcases List.mem_cons.mp hy with e | e
      · rw [e]; exact Int.le_trans hm (Int.min_le_left _ _)
      · rcases List.mem_cons.mp e with e | e
        · rw [e]; exact Int.le_trans hm (Int.min_le_right _ _)
        · exact h2 y (by simp [e])
end
end VL
namespace VL
open PySem PySem.Spec PyProof.Rows L2
end VL
namespace VL
open PySem L2
def dKey : D → Option Key
  | .int i => some (.inl i)
  | .str x => some (.inr x)
  | _ => none
def keyD : Key → D
  | .inl i => .int i
  | .inr x => .str x
def getK (ks : List (Key × D)) (k : Key) : Option D := (ks.find? fun q => decide (q.1 = k)).map (·.2)
def putKD (ks : List (Key × D)) (k : Key) (d : D) : List (Key × D) :=
  if (ks.any fun q => decide (q.1 = k)) = true then ks.map (fun q => if q.1 = k then (q.1, d) else q) else ks ++ [(k, d)]
section
variable {K : PySem.W.Frag} {g : Gh}
theorem dKey_V {d : D} {k : Key} {v : V} (h : dKey d = some k) (dv : DV K g d v) : v = kV k := by
  cases d <;> first | (cases h; done) | skip
  · cases h
    rw [dv.of_i]
    rfl
  · cases h
    rw [dv.of_s]
    rfl
theorem DV.key {k : Key} : DV K g (keyD k) (kV k) := by
  cases k with
  | inl i => exact DV.i
  | inr x => exact DV.s
theorem DVk.cons {k : Key} {d : D} {v : V} {ks : List (Key × D)} {ws : List (Key × V)} (h : DV K g d v) (r : DVk K g ks ws) : DVk K g ((k, d) :: ks) ((k, v) :: ws) := by
  simp only [DVk]
  exact ⟨v, ws, rfl, h, r⟩
theorem DVk.of_cons {k : Key} {d : D} {ks : List (Key × D)} {ws : List (Key × V)} (h : DVk K g ((k, d) :: ks) ws) : ∃ v r, ws = (k, v) :: r ∧ DV K g d v ∧ DVk K g ks r := by simpa only [DVk] using h
theorem DVk.of_nil {ws : List (Key × V)} (h : DVk K g [] ws) : ws = [] := by simpa only [DVk] using h
theorem DVk.len : ∀ {ks : List (Key × D)} {ws : List (Key × V)}, DVk K g ks ws → ws.length = ks.length
  | [], ws, h => by rw [h.of_nil]; rfl
  | (k, d) :: ks, ws, h => by
    obtain ⟨v, r, rfl, _, h2⟩ := h.of_cons
    rw [List.length_cons, List.length_cons, DVk.len h2]
theorem DVk.any (k : Key) : ∀ {ks : List (Key × D)} {ws : List (Key × V)}, DVk K g ks ws → (ws.any fun q => decide (q.1 = k)) = ks.any fun q => decide (q.1 = k)
  | [], ws, h => by rw [h.of_nil]; rfl
  | (k', d) :: ks, ws, h => by
    obtain ⟨v, r, rfl, _, h2⟩ := h.of_cons
    rw [List.any_cons, List.any_cons, DVk.any k h2]
theorem DVk.repl {k : Key} {d : D} {v : V} (dv : DV K g d v) : ∀ {ks : List (Key × D)} {ws : List (Key × V)}, DVk K g ks ws → DVk K g (ks.map fun q => if q.1 = k then (q.1, d) else q) (ws.map fun q => if q.1 = k then (q.1, v) else q)
  | [], ws, h => by
    rw [h.of_nil]
    simp only [List.map_nil, DVk]
  | (k', d') :: ks, ws, h => by
    obtain ⟨u, r, rfl, h1, h2⟩ := h.of_cons
    rw [List.map_cons, List.map_cons]
    by_cases q : k' = k
    · simp only [q, if_true]
      exact DVk.cons dv (DVk.repl dv h2)
    · simp only [q, if_false]
      exact DVk.cons h1 (DVk.repl dv h2)
theorem DVk.snoc {k : Key} {d : D} {v : V} (dv : DV K g d v) : ∀ {ks : List (Key × D)} {ws : List (Key × V)}, DVk K g ks ws → DVk K g (ks ++ [(k, d)]) (ws ++ [(k, v)])
  | [], ws, h => by
    rw [h.of_nil]
    exact DVk.cons dv (by simp only [DVk])
  | (k', d') :: ks, ws, h => by
    obtain ⟨u, r, rfl, h1, h2⟩ := h.of_cons
    exact DVk.cons h1 (DVk.snoc dv h2)
theorem DVk.put {k : Key} {d : D} {v : V} {ks : List (Key × D)} {ws : List (Key × V)} (dv : DV K g d v) (h : DVk K g ks ws) : DVk K g (putKD ks k d) (putK ws k v) := by
  unfold putKD putK
  rw [h.any k]
  split
  · exact h.repl dv
  · exact h.snoc dv
theorem DVk.keys : ∀ {ks : List (Key × D)} {ws : List (Key × V)}, DVk K g ks ws → ws.map (·.1) = ks.map (·.1)
  | [], ws, h => by rw [h.of_nil]; rfl
  | (k, d) :: ks, ws, h => by
    obtain ⟨v, r, rfl, _, h2⟩ := h.of_cons
    rw [List.map_cons, List.map_cons, DVk.keys h2]
theorem DV.of_f {ks : List (Key × D)} {v : V} (h : DV K g (.fdc ks) v) : ∃ a ws o, v = .ref a ∧ g.G a = some (.frz o (.dK ws)) ∧ DVk K g ks ws := by simpa only [DV] using h
theorem DVs.keyD : ∀ ks : List (Key × D), DVs K g (ks.map fun q => VL.keyD q.1) (ks.map fun q => kV q.1)
  | [] => .nil
  | _ :: r => .cons DV.key (DVs.keyD r)
end
section
variable {K : PySem.W.Frag} {B : Bs} {g g' : Gh} {s : VS} {σ : L2.St} {H H' : Hp}
/-- a dict that may change becomes data: it stands fixed -/
theorem Rel.frzD {i : Nat} {ks : List (Key × D)} {v : V} (R : Rel K B g s σ H) (h : s.n.h[i]? = some (.k ks)) (dv : DV K g (.loc i) v) : ∃ a ws, v = .ref a ∧ H a = some (.dK ws) ∧
    ∀ od, ∃ g', Gx g g' ∧ DV K g' (.fdc ks) v ∧ Rel K B g' ⟨s.e, ⟨s.n.n, s.n.h.set i .x⟩⟩ σ (upd H a (.frz od (.dK ws))) := by
  obtain ⟨a, o, rfl, ha, ho, co⟩ := R.loc h (by simp) dv
  cases o <;> first | exact co.elim | skip
  rename_i ws
  have co : DVk K g ks ws := co
  refine ⟨a, ws, rfl, ho, fun od => ?_⟩
  have la : lz g a := ⟨i, ha⟩
  have za : zone g a := .inr la
  have ga : g.G a = none := R.gh.off a za
  have hil : i < g.L.length := (List.getElem?_eq_some_iff.mp ha).1
  have hl := R.gh.mem.len
  let g' : Gh := ⟨upd g.G a (.frz od (.dK ws)), g.r, g.T, g.L.set i (a, false), g.K⟩
  have lx : Lx g g' := fun j b f e => by
    show ∃ f', (g.L.set i (a, false))[j]? = some (b, f')
    by_cases q : i = j
    · subst q
      rw [ha] at e
      cases e
      exact ⟨false, List.getElem?_set_self hil⟩
    · exact ⟨f, by rw [List.getElem?_set_ne q]; exact e⟩
  have gx : Gx g g' := ⟨fun b u e => by
    show upd g.G a _ b = some u
    rw [upd_ne (ne_of_none e ga)]
    exact e, fun z e => ⟨z, e, rfl⟩, lx⟩
  have lz' : ∀ b, lz g' b → lz g b ∧ b ≠ a := fun b ⟨j, hj⟩ => by
    have hj' : (g.L.set i (a, false))[j]? = some (b, true) := hj
    by_cases q : i = j
    · subst q
      rw [List.getElem?_set_self hil] at hj'
      cases hj'
    · rw [List.getElem?_set_ne q] at hj'
      exact ⟨⟨j, hj'⟩, fun z => q (R.gh.mem.inj i j a ha (by rw [hj', z]))⟩
  have zg : ∀ b, zone g' b → zone g b ∧ b ≠ a := fun b z => by
    rcases z with ⟨z, e, q⟩ | z
    · exact ⟨.inl ⟨z, e, q⟩, fun q' => R.gh.mem.dz a la z e (q' ▸ q)⟩
    · exact ⟨.inr (lz' b z).1, (lz' b z).2⟩
  obtain ⟨o1, ho1, n1, n2⟩ := R.gh.mem.there la
  have ex : Ext g H g' (upd H a (.frz od (.dK ws))) := ⟨gx.1, fun b u e nz _ => by rw [upd_ne (fun (q : b = a) => nz (by rw [q]; exact za))]; exact e, ⟨rfl, fun t => tab_chg ho1 n1 n2 _ t⟩, fun b u e n nz => by
    show upd g.G a _ b = none
    rw [upd_ne fun (q : b = a) => nz (by rw [q]; exact za)]
    exact n, fun b u e => by
    by_cases q : b = a
    · exact ⟨_, by rw [q, upd_same]⟩
    · exact ⟨u, by rw [upd_ne q]; exact e⟩, gx.2.1, fun b z => .inl (zg b z).1, lx, rfl⟩
  have ok : GhOk g' (upd H a (.frz od (.dK ws))) ⟨s.n.n, s.n.h.set i .x⟩ := ⟨fun b u e => by
    have e' : upd g.G a (.frz od (.dK ws)) b = some u := e
    by_cases q : b = a
    · rw [q, upd_same] at e' ⊢
      exact e'
    · rw [upd_ne q] at e' ⊢
      exact R.gh.sub b u e', fun b u e => by
    have e' : upd g.G a (.frz od (.dK ws)) b = some u := e
    by_cases q : b = a
    · rw [q, upd_same] at e'
      cases e'
      exact fun _ z => (nomatch z)
    · rw [upd_ne q] at e'
      exact R.gh.nt b u e', fun z e => by
    obtain ⟨d, hn⟩ := R.gh.dr z e
    have nd := R.gh.mem.dz a la z e
    exact ⟨⟨by rw [upd_ne fun q => nd (.inl q.symm)]; exact d.m, by rw [upd_ne fun q => nd (.inr (.inl q.symm))]; exact d.c, by rw [upd_ne fun q => nd (.inr (.inr q.symm))]; exact d.l, d.ne, d.bits, d.clen, d.pos, d.llen⟩, hn⟩, fun b z => by
    show upd g.G a _ b = none
    rw [upd_ne (zg b z).2]
    exact R.gh.off b (zg b z).1, ⟨by
      show (g.L.set i (a, false)).length = (s.n.h.set i .x).length
      rw [List.length_set, List.length_set]
      exact hl, fun j c b f h1 h2 => by
      have h1' : (s.n.h.set i .x)[j]? = some c := h1
      have h2' : (g.L.set i (a, false))[j]? = some (b, f) := h2
      by_cases q : i = j
      · subst q
        rw [List.getElem?_set_self hil] at h2'
        rw [List.getElem?_set_self (by omega)] at h1'
        cases h1'
        cases h2'
        exact rfl
      · rw [List.getElem?_set_ne q] at h1' h2'
        refine (R.gh.mem.at_ j c b f h1' h2').keep gx rfl fun u hf e _ => ?_
        rw [upd_ne fun z => q (R.gh.mem.inj i j a ha (by rw [h2', z, hf]))]
        exact e, fun j k b h1 h2 => by
      have h1' : (g.L.set i (a, false))[j]? = some (b, true) := h1
      have h2' : (g.L.set i (a, false))[k]? = some (b, true) := h2
      have q1 : i ≠ j := fun q => by subst q; rw [List.getElem?_set_self hil] at h1'; cases h1'
      have q2 : i ≠ k := fun q => by subst q; rw [List.getElem?_set_self hil] at h2'; cases h2'
      rw [List.getElem?_set_ne q1] at h1'
      rw [List.getElem?_set_ne q2] at h2'
      exact R.gh.mem.inj j k b h1' h2', fun b l z e => R.gh.mem.dz b (lz' b l).1 z e⟩⟩
  have R2 := R.step ex ok
  refine ⟨g', gx, ?_, R2⟩
  simp only [DV]
  exact ⟨a, ws, od, rfl, show upd g.G a _ a = _ from upd_same, DVk.mono gx co⟩
end
section
variable {X : Cx} {B : Bs} {W : WX} {a b c : Expr} {es : List Expr} {ma mb mc : M D} {mes : M (List D)} {p pos : Pos} {tg : Expr}
/-- {} -/
def mDctL : M D := fun s Q _ => Q (.loc s.n.h.length) ⟨s.e, ⟨s.n.n, s.n.h ++ [.k []]⟩⟩
theorem pm_dctL : PM X B W (.Dict [] [] pos) mDctL := by
  refine impE pe_dnewK fun σ H Q h => ?_
  obtain ⟨g, s, Qd, E, R, hm, hk, hx⟩ := h
  intro q hq
  obtain ⟨R2, dl⟩ := R.addL (c := .k []) (o := .dK []) hq (show DVk X.K g [] [] by simp only [DVk])
  exact hk _ _ _ _ _ Gx.addL R2 dl hm
/-- d[k] = a -/
def mDPut (mo mi m : M D) : MS := fun s K => m s (fun d s1 => mo s1 (fun o s2 => mi s2 (fun j s3 => match o with
  | .loc i => ∃ ks k, s3.n.h[i]? = some (.k ks) ∧ dKey j = some k ∧ ks.length < sizeLine ∧ K.nx ⟨s3.e, ⟨s3.n.n, s3.n.h.set i (.k (putKD ks k d))⟩⟩
  | _ => False) K.ex) K.ex) K.ex
theorem pms_dput {sp : Pos} (hu : X.A.units + 1 < cLine) (ho : PM X B W b mb) (hi : PM X B W c mc) (ha : PM X B W a ma) (hs : swapsWith a (some (.Subscript b c sp)) pos.line X.env = pure false := by rfl) :
    PMS X B W (.Assign [.Subscript b c sp] a pos) (mDPut mb mc ma) := by
  refine impS (ps_dput hu ho hi ha hs) fun D σ H ⟨g, s, K, R, hm, ok⟩ => ?_
  refine ⟨g, s, _, K.ex, R, hm, fun g1 s1 H1 v1 d1 x1 R1 dv1 q1 => ?_, ok.x σ⟩
  refine ⟨g1, s1, _, K.ex, R1, q1, fun g2 s2 H2 v2 d2 x2 R2 dv2 q2 => ?_, (ok.mono x1).x σ⟩
  refine ⟨g2, s2, _, K.ex, R2, q2, fun g3 s3 H3 v3 d3 x3 R3 dv3 q3 => ?_, (ok.mono (x1.trans x2)).x σ⟩
  cases d2 <;> first | exact (show False from q3).elim | skip
  rename_i i
  obtain ⟨ks, k, h1, h2, h3, q⟩ := q3
  obtain ⟨q', o, rfl, ha, ho, co⟩ := R3.loc h1 (by simp) (dv2.mono x3)
  cases o <;> first | exact co.elim | skip
  rename_i ws
  have co : DVk X.K g3 ks ws := co
  rw [dKey_V h2 dv3]
  refine ⟨q', _, rfl, DPut.k ho (by rw [co.len]; exact h3), ok.nx g3 _ σ _ (x1.trans (x2.trans x3)) (R3.chgL (c' := .k (putKD ks k d1)) (o' := .dK (putK ws k v1)) ha (co.put (dv1.mono (x2.trans x3)))) q⟩
/-- d[k], one that may change or is data -/
def mDGet (mo mi : M D) : M D := fun s Q E => mo s (fun o s1 => mi s1 (fun j s2 => match o with
  | .loc i => ∃ ks k d, s2.n.h[i]? = some (.k ks) ∧ dKey j = some k ∧ getK ks k = some d ∧ Q d s2
  | .fdc ks => ∃ k d, dKey j = some k ∧ getK ks k = some d ∧ Q d s2
  | _ => False) E) E
theorem pm_dgetM (hu : X.A.units + 1 < cLine) (ha : PM X B W a ma) (hb : PM X B W b mb) (hs : NoSl b := by intro _ _; rfl) : PM X B W (.Subscript a b pos) (mDGet ma mb) := by
  refine impE (pe_dget hu ha hb hs) fun σ H Q h => ?_
  obtain ⟨g, s, Qd, E, R, hm, hk, hx⟩ := h
  refine ⟨g, s, _, E, R, hm, fun g1 s1 H1 x d1 x1 R1 dx q1 => ?_, hx⟩
  refine ⟨g1, s1, _, E, R1, q1, fun g2 s2 H2 y d2 x2 R2 dy q2 => ?_, hx.mono x1⟩
  cases d1 <;> first | exact (show False from q2).elim | skip
  · rename_i ks
    obtain ⟨k, d, h1, h2, q⟩ := q2
    obtain ⟨p, ws, od, rfl, e1, e2⟩ := (dx.mono x2).of_f
    obtain ⟨v, e3, e4⟩ := e2.get (k := k) h2
    rw [dKey_V h1 dy]
    exact ⟨p, v, rfl, .inl ⟨ws, k, .inr ⟨od, R2.gh.sub _ _ e1⟩, rfl, e3.symm⟩, hk g2 s2 H2 v d (x1.trans x2) R2 e4 q⟩
  · rename_i i
    obtain ⟨ks, k, d, h0, h1, h2, q⟩ := q2
    obtain ⟨q', o, rfl, ha, ho, co⟩ := R2.loc h0 (by simp) (dx.mono x2)
    cases o <;> first | exact co.elim | skip
    rename_i ws
    have co : DVk X.K g2 ks ws := co
    obtain ⟨v, e3, e4⟩ := co.get (k := k) h2
    rw [dKey_V h1 dy]
    exact ⟨q', v, rfl, .inl ⟨ws, k, .inl ho, rfl, e3.symm⟩, hk g2 s2 H2 v d (x1.trans x2) R2 e4 q⟩
/-- the value of e, a dict that may change: it becomes data -/
def mFz (m : M D) : M D := fun s Q E => m s (fun d s1 => match d with
  | .loc i => ∃ ks, s1.n.h[i]? = some (.k ks) ∧ Q (.fdc ks) ⟨s1.e, ⟨s1.n.n, s1.n.h.set i .x⟩⟩
  | _ => False) E
theorem pe_frz {t : TE} (h : PE X a t) : PE X a fun σ H Q => t σ H fun x H1 => ∃ d u, x = .ref d ∧ H1 d = some u ∧ Mut (some u) ∧ ∀ od, Q x (upd H1 d (.frz od u)) := by
  refine ⟨fun pins s σ H Q I hq => thn (h.run pins s σ H _ I hq) fun v s1 ⟨x, H1, I1, r, d, u, ex, hd, mu, q⟩ => ?_⟩
  obtain ⟨od, I2⟩ := I1.lock hd mu
  exact ⟨x, _, I2, r, q od⟩
theorem pm_fz (ha : PM X B W a ma) : PM X B W a (mFz ma) := by
  refine impE (pe_frz ha) fun σ H Q h => ?_
  obtain ⟨g, s, Qd, E, R, hm, hk, hx⟩ := h
  refine ⟨g, s, _, E, R, hm, fun g1 s1 H1 x d1 x1 R1 dx q1 => ?_, hx⟩
  cases d1 <;> first | exact (show False from q1).elim | skip
  rename_i i
  obtain ⟨ks, h1, q⟩ := q1
  obtain ⟨a, ws, rfl, ho, fz⟩ := R1.frzD h1 dx
  refine ⟨a, _, rfl, ho, trivial, fun od => ?_⟩
  obtain ⟨g2, gx, dl, R2⟩ := fz od
  exact hk g2 _ _ _ _ (x1.trans gx) R2 dl q
/-- for k in d -/
def itK : D → (List D → Prop) → Prop
  | .fdc ks, Q => Q (ks.map fun q => keyD q.1)
  | _, _ => False
theorem it_keys {K : PySem.W.Frag} {g : Gh} {a : Addr} {o : Obj} {ks : List (Key × D)} {ws : List (Key × V)} (h : ∀ g' H', Gx g g' → Same g'.G H' → H' a = some (.frz o (.dK ws))) (hs : DVk K g ks ws) : ItOk K (Itk a o ws) g (ks.map fun q => keyD q.1) := by
  have hl := hs.len
  have hk := hs.keys
  refine ⟨fun g' H' i d x hg hd => ?_, fun g' H' x hg => ⟨h g' H' x hg, by rw [List.length_map, hl]; exact Nat.le_refl _⟩⟩
  have hi : i < ks.length := by
    have := (List.getElem?_eq_some_iff.mp hd).1
    simpa using this
  refine ⟨⟨h g' H' x hg, by omega⟩, fun y H'' hy => .inl ⟨hy.1, ?_⟩⟩
  obtain ⟨k, v, e1, rfl⟩ := hy.2
  have e2 : (ws.map (·.1))[i]? = some k := by rw [List.getElem?_map, e1]; rfl
  rw [hk, List.getElem?_map] at e2
  rw [List.getElem?_map] at hd
  cases e3 : ks[i]? with
  | none => rw [e3] at hd; cases hd
  | some q =>
    rw [e3] at hd e2
    cases hd
    cases e2
    exact DV.key
theorem pmi_keys (ha : PM X B W a ma) : PMI X B W tg a (mIt itK ma) := by
  refine impI (pi_keys ha) fun σ H Q h => ?_
  obtain ⟨g, s, Qd, E, R, hm, hk, hx⟩ := h
  refine ⟨g, s, _, E, R, hm, fun g1 s1 H1 x d1 x1 R1 dx q1 => ?_, hx⟩
  cases d1 <;> first | exact (show False from q1).elim | skip
  obtain ⟨p, ws, o, rfl, e1, e2⟩ := dx.of_f
  exact ⟨p, o, rfl, .inl ⟨ws, R1.gh.sub _ _ e1, hk g1 s1 H1 _ _ x1 R1 (it_keys (fun g' H' y hg => hg _ _ (y.1 _ _ e1)) e2) q1⟩⟩
/-- list(d): its keys -/
def lstKD : List D → (D → Prop) → Prop
  | [.fdc ks], Q => Q (.lst (ks.map fun q => keyD q.1))
  | _, _ => False
end
end VL
namespace VL
open PySem PySem.Spec PyProof.Rows L2
def rListF : List V → Hp → VK → Prop := fun xs H Q => ∃ p kvs, xs = [.ref p] ∧ Rd H p (.dK kvs) ∧ ∀ q, H q = none → Q (.ref q) (upd H q (.lst (kvs.map fun kv => kV kv.1)))
theorem call_list_frz {X : Cx} (hc : X.calm = true) : CallR X (.type "list") rListF := by
  intro pins s σ H xs us Q I r h
  obtain ⟨p, kvs, e, hk, q⟩ := h
  subst e
  obtain ⟨u, eu, rx⟩ := vals1 r
  subst eu
  obtain rfl : u = Value.ref p := rx
  obtain ⟨z, lo, vs, rk, hd⟩ := dk_rd I.hok hk
  obtain ⟨ep, hat⟩ := hd.dictAt
  have hl : kvs.length = vs.length := Paired.length rk
  refine PySem.W.kdl_call (PySem.W.kdl_dict (knd := mixKind X.prog X.w) (kvs := vs) (ep := ep) lo) (I.ok.hd hc) hat (by rw [← hl]; exact z) fun h' tk acc' c' hkeep hS hacc => ?_
  refine ⟨.ref s.heap.objs.size, upd H s.heap.objs.size (.lst (kvs.map fun kv => kV kv.1)), I.laid hkeep (Nat.le_refl _) (show ObjOk X.prog X.w _ _ _ (.lst (kvs.map fun kv => kV kv.1)) from ⟨?_, acc'.toList, c', ?_, ?_⟩), rfl, q _ (I.hok.fresh (Nat.le_refl _))⟩
  · rw [List.length_map]; exact z
  · have el : acc'.toList.length = acc'.size := by simp
    refine vals_of_at (by rw [List.length_map, el, hacc.1, hl]) fun j x w h1 h2 => ?_
    obtain ⟨k, y, hky, hi⟩ := hacc.2 j w (by rw [← Array.getElem?_toList]; exact h2)
    have e1 : (kvs.map (·.1))[j]? = some k := by
      rw [KV.keys rk, List.getElem?_map, hky] <;> rfl
    have e2 : (kvs.map fun kv => kV kv.1)[j]? = some (kV k) := by
      have e3 : (kvs.map fun kv => kV kv.1) = (kvs.map (·.1)).map kV := by rw [List.map_map] <;> rfl
      rw [e3, List.getElem?_map, e1] <;> rfl
    rw [e2] at h1
    cases h1
    exact keyIs_rel hi
  · rw [Array.toArray_toList]; exact hS
section
variable {X : Cx} {B : Bs} {W : WX} {a b c : Expr} {ma mb mc : M D} {p pos : Pos}
theorem pm_lstK (hc : X.calm = true) (hm : X.mg "list" = none) (ha : PM X B W a ma) (hg : Gl X "list" := by rfl) (hs : starEach [a] X.env = [(false, eval a X.env)] := by rfl) : PM X B W (.Call (.Name "list" p) [a] [] pos) (mB lstKD (mCons ma mNil)) := by
  refine pm_ct (call_list_frz hc) ?_ hg hm (by decide +kernel) (pma_cons ha pma_nil hs) (by decide) (by decide) hs
  intro g H n ds vs Qd Qv ok hd hf hk
  unfold lstKD at hf
  split at hf
  · rename_i ks
    obtain ⟨v, rfl, h1⟩ := hd.one
    obtain ⟨q', ws, o, rfl, e1, e2⟩ := h1.of_f
    refine ⟨q', ws, rfl, .inr ⟨o, ok.sub _ _ e1⟩, fun p hp => ?_⟩
    have gx := Gx.put (g := g) (p := p) (o := .lst (ws.map fun kv => kV kv.1)) (ok.sub.free hp)
    refine hk _ _ _ _ (Ext.put ok.sub hp) (ok.put hp) ?_ hf
    have e3 : (ws.map fun kv => kV kv.1) = ks.map fun q => kV q.1 := by
      have e4 : (ws.map fun kv => kV kv.1) = (ws.map (·.1)).map kV := by rw [List.map_map]; rfl
      have e5 : (ks.map fun q => kV q.1) = (ks.map (·.1)).map kV := by rw [List.map_map]; rfl
      rw [e4, e5, e2.keys]
    refine DV.l (show upd g.G p _ p = _ from upd_same) ?_
    rw [e3]
    exact DVs.keyD ks
  · exact hf.elim
end
end VL
namespace VL
open PySem L2
def subBD : D → D → (D → Prop) → Prop
  | .bl a, .bl b, Q => Q (.int ((if a = true then 1 else 0) - if b = true then 1 else 0))
  | _, _, _ => False
def rSubB : R2 := fun x y H Q => ∃ i j : Bool, x = .bl i ∧ y = .bl j ∧ Q (.int ((if i = true then 1 else 0) - if j = true then 1 else 0)) H
section
variable {X : Cx} {B : Bs} {W : WX} {a b : Expr} {ma mb : M D} {pos : Pos}
theorem op_subB : OpR X (binaryOp .Sub) rSubB := by
  intro pins s σ H x y v u Q I rx ry ⟨i, j, e1, e2, q⟩
  subst e1
  subst e2
  obtain rfl : v = Value.bool i := rx
  obtain rfl : u = Value.bool j := ry
  exact PyProof.Rows.sub_bool ⟨.int ((if i = true then 1 else 0) - if j = true then 1 else 0), H, I.tok _, ⟨_, rfl⟩, q⟩
theorem opv_subB {K : PySem.W.Frag} : OpV K rSubB subBD := by
  intro g H n d1 d2 x y Qd Qv ok h1 h2 hf hk
  unfold subBD at hf
  split at hf
  · exact ⟨_, _, h1.of_b, h2.of_b, hk g H _ _ (Ext.refl _ _) ok DV.i hf⟩
  · exact hf.elim
theorem pm_subB (ha : PM X B W a ma) (hb : PM X B W b mb) : PM X B W (.BinOp a .Sub b pos) (mOp subBD ma mb) := pm_op op_subB opv_subB ha hb
end
end VL
namespace KT
open PySem L2 VL KL KM KP SS
def kinds3 : List Str := ["band", "cross", "mesh"]
def memD (xs : List Str) (d : D) : Bool := xs.any fun z => isSt z d
def linkD (ws ns : List Str) : D → Bool
  | .tup [a, b, c, k] => memD ns a && (memD ws b && (memD ws c && memD kinds3 k))
  | _ => false
def linksD (ws ns : List Str) (most : Nat) : D → Bool
  | .tup es => (decide (1 ≤ es.length) && decide (es.length ≤ most)) && es.all (linkD ws ns)
  | _ => false
def isNil : D → Bool
  | .tup [] => true
  | _ => false
def restD (ws ns : List Str) (m : D) (i : Int) (l : D) : Bool :=
  if ns.isEmpty then (isSt "hand" m && (i == 1)) && isNil l
  else if isSt "fixed" m then (i == 0) && linksD ws ns 1 l
  else (isSt "fast" m || isSt "slow" m) && ((i == 1 || i == -1) && linksD ws ns 3 l)
def shaftD (ws ns : List Str) : D → Bool
  | .tup [a, m, w, l] => (isWord a && !memD ns a) && (match w with
    | .int i => restD ws ns m i l
    | _ => false)
  | _ => false
def nameOf : D → Str
  | .tup (.str a :: _) => a
  | _ => ""
def badS (ws : List Str) : List Str → List D → Nat → Option Nat
  | _, [], _ => none
  | ns, x :: r, i => if shaftD ws ns x then badS ws (ns ++ [nameOf x]) r (i + 1) else some i
abbrev trF (d e : D) : List (Str × D) := [("sizes", d), ("shafts", e)]
abbrev trD (d : D) (es : List D) : D := .ins "Train" (trF d (.tup es))
def clean (x : D) : Prop := cl x = true ∧ wt x ≤ 100000
def F_is_kind : FT := fun ds st Q _ => ∃ d, ds = [d] ∧ tyOk d = true ∧ Q (.bl (memD kinds3 d)) st
def F_is_size : FT := fun ds st Q _ => ∃ ws d, ds = [TS ws, d] ∧ tyOk d = true ∧ Q (.bl (memD ws d)) st
def F_is_link : FT := fun ds st Q _ => ∃ ws ns d, ds = [TS ws, TS ns, d] ∧ clean d ∧ Q (.bl (linkD ws ns d)) st
def F_are_links : FT := fun ds st Q _ => ∃ (ws ns : List Str) (d : D) (most : Nat), ds = [TS ws, TS ns, d, .int most] ∧ clean d ∧ Q (.bl (linksD ws ns most d)) st
def F_is_shaft : FT := fun ds st Q _ => ∃ ws ns d, ds = [TS ws, TS ns, d] ∧ clean d ∧ Q (.bl (shaftD ws ns d)) st
/-- what a train is made of, or what is refused -/
def madeT (ws : List Str) (e : D) : Option (List D) ⊕ Nat := match seqD e with
  | none => .inl none
  | some (_, xs) => if 1 ≤ xs.length ∧ xs.length ≤ 8 then match badS ws [] xs 0 with
    | some i => .inr i
    | none => .inl (some xs)
    else .inl none
def F_Trainu_initu : FI := fun ds st Q E => ∃ d e, ds = [d, e] ∧ clean d ∧ clean e ∧ (isSizes d = false → E ⟨"BadSizes", [("value", d)]⟩ st) ∧ ∀ ws, d = TS ws → okS ws = true →
  (madeT ws e = .inl none → E ⟨"BadTrain", [("place", .non)]⟩ st) ∧ (∀ i, madeT ws e = .inr i → E ⟨"BadTrain", [("place", .int i)]⟩ st) ∧ ∀ xs, madeT ws e = .inl (some xs) → Q (trF d (.tup xs)) st
/-- shafts that are drawn: rows of four, the first a text -/
def rowS (x : D) : Prop := ∃ a m w l, x = .tup [.str a, m, w, l]
def F_Train_names : FT := fun ds st Q _ => ∃ d es, ds = [trD d es] ∧ es.length ≤ 100 ∧ (∀ x ∈ es, rowS x) ∧ Q (.tup (es.map fun x => .str (nameOf x))) st
structure Shafts (ws : List Str) (sh : List D) : Prop where
  n1 : 1 ≤ sh.length
  n8 : sh.length ≤ 8
  bad : badS ws [] sh 0 = none
  row : ∀ x ∈ sh, rowS x
  bd : ∀ x ∈ sh, clB 5 x = true ∧ dp x ≤ 3 ∧ wt x ≤ 400
  fst : sh[0]? = some (.tup [.str "bs", .str "hand", .int 1, .tup []])
def F_law_shafts : FT := fun ds st Q _ => ∃ ws, ∃ mo : Nat, ds = [.drw, TS ws, .int mo] ∧ 1 ≤ mo ∧ mo ≤ 8 ∧ okS ws = true ∧ st.n + 400 < LIM ∧ ∀ (sh : List D) (n' : Nat), Shafts ws sh → sh.length ≤ mo → n' ≤ st.n + 200 → Q (.lst sh) ⟨n', st.h⟩
structure Lnk where
  n : Str
  a : Str
  b : Str
  k : Str
structure Sft where
  n : Str
  m : Str
  w : Int
  ls : List Lnk
def lkD (l : Lnk) : D := .tup [.str l.n, .str l.a, .str l.b, .str l.k]
def sfD (s : Sft) : D := .tup [.str s.n, .str s.m, .int s.w, .tup (s.ls.map lkD)]
structure okLk (ws ns : List Str) (l : Lnk) : Prop where
  n : l.n ∈ ns
  a : l.a ∈ ws
  b : l.b ∈ ws
  k : l.k ∈ kinds3
structure okSf (ws ns : List Str) (s : Sft) : Prop where
  w : isWord (.str s.n) = true
  n : s.n ∉ ns
  ls : ∀ l ∈ s.ls, okLk ws ns l
  h : ns = [] → s.m = "hand" ∧ s.w = 1 ∧ s.ls = []
  o : ns ≠ [] → (s.m = "fixed" ∧ s.w = 0 ∧ s.ls.length = 1) ∨ ((s.m = "fast" ∨ s.m = "slow") ∧ (s.w = 1 ∨ s.w = -1) ∧ 1 ≤ s.ls.length ∧ s.ls.length ≤ 3)
def okT (ws : List Str) : List Str → List Sft → Prop
  | _, [] => True
  | ns, s :: r => okSf ws ns s ∧ okT ws (ns ++ [s.n]) r
/-- a way and a speed, none of what stands still -/
abbrev Dn := Option (Int × D)
def dnD : Dn → D
  | none => .non
  | some (w, s) => .tup [.int w, s]
abbrev Fnd := List (Str × Dn)
def fndK (f : Fnd) : List (Key × D) := f.map fun q => (.inr q.1, dnD q.2)
def lookF (f : Fnd) (n : Str) : Dn := ((f.find? fun q => decide (q.1 = n)).map (·.2)).getD none
def addI (cs ps : List Int) : List Int := (cs.zip ps).map fun q => q.1 + q.2
def timesD (ps : List Int) : Nat → D → D
  | 0, d => d
  | j + 1, .tup [h, .tup cs] => if isSt "product" h then .tup [.str "product", .tup ((addI (intsL cs) ps).map .int)] else .tup [h, .tup (cs.map (timesD ps j))]
  | _, d => d
def ratioF (ws : List Str) (a b : Str) : List Int := ws.map fun z => (if z = a then 1 else 0) - (if z = b then 1 else 0)
def brF (ws : List Str) (f : Fnd) (l : Lnk) : Dn := (lookF f l.n).map fun q => (if l.k = "band" then q.1 else -q.1, timesD (ratioF ws l.a l.b) 8 q.2)
def zeroP (ws : List Str) : D := .tup [.str "product", TI (ws.map fun _ => 0)]
def stepF (ws : List Str) (f : Fnd) (s : Sft) : Dn :=
  let so := s.ls.filterMap (brF ws f)
  if s.m = "hand" then some (1, zeroP ws)
  else if s.m = "fixed" then so.head?
  else let sp := (so.filter fun q => decide (q.1 = s.w)).map (·.2)
    if sp = [] then none else some (s.w, .tup [.str (if s.m = "fast" then "greatest" else "least"), .tup sp])
def turnF (ws : List Str) : List Sft → Fnd → Fnd
  | [], f => f
  | s :: r, f => turnF ws r (f ++ [(s.n, stepF ws f s)])
/-- what may be a speed of a shaft: so deep -/
def okDn (k j : Nat) : Dn → Prop
  | none => True
  | some (w, s) => (w = 1 ∨ w = -1) ∧ isSp k j s = true ∧ clB j s = true
def F_added : FT := fun ds st Q _ => ∃ cs ps : List Int, ds = [TI cs, TI ps] ∧ cs.length ≤ 1000 ∧ ps.length ≤ 1000 ∧ Q (TI (addI cs ps)) st
def F_times_so : Nat → FT
  | 0 => fun _ _ _ _ => False
  | j + 1 => fun ds st Q _ => ∃ (k : Nat) (d : D) (ps : List Int), ds = [d, TI ps] ∧ k ≤ 100 ∧ ps.length = k ∧ isSp k j d = true ∧ Q (timesD ps j d) st
def F_law_by : Nat → FT
  | 0 => fun _ _ _ _ => False
  | j + 1 => fun ds st Q _ => ∃ (k : Nat) (d : D) (ps : List Int), ds = [d, TI ps] ∧ k ≤ 100 ∧ ps.length = k ∧ isSp k j d = true ∧ Q (timesD ps j d) st
def F_ratio : FT := fun ds st Q _ => ∃ (ws : List Str) (a b : Str), ds = [TS ws, .str a, .str b] ∧ ws.length ≤ 1000 ∧ Q (TI (ratioF ws a b)) st
/-- what was found so far: all names that links may tell -/
structure okF (ws ns : List Str) (f : Fnd) : Prop where
  n : f.map (·.1) = ns
  d : ns.Nodup
  l : ns.length ≤ 8
  o : ∀ q ∈ f, okDn ws.length ns.length q.2
def F_brought : FT := fun ds st Q _ => ∃ (ws ns : List Str) (f : Fnd) (i : Nat) (l : Lnk), ds = [TS ws, .loc i, lkD l] ∧ 1 ≤ ws.length ∧ ws.length ≤ 5 ∧ st.h[i]? = some (.k (fndK f)) ∧ okF ws ns f ∧ okLk ws ns l ∧ Q (dnD (brF ws f l)) st
def F_turning : FT := fun ds st Q _ => ∃ (ws : List Str) (sh : List Sft), ds = [TS ws, .tup (sh.map sfD)] ∧ 1 ≤ ws.length ∧ ws.length ≤ 5 ∧ sh.length ≤ 8 ∧ okT ws [] sh ∧ Q (.fdc (fndK (turnF ws sh []))) ⟨st.n, st.h ++ [.x]⟩
def F_law_turning : FT := fun ds st Q _ => ∃ (ws : List Str) (sh : List Sft), ds = [TS ws, .lst (sh.map sfD)] ∧ 1 ≤ ws.length ∧ ws.length ≤ 5 ∧ sh.length ≤ 8 ∧ okT ws [] sh ∧ Q (.fdc (fndK (turnF ws sh []))) ⟨st.n, st.h ++ [.x]⟩
/-- a train whose shafts are so -/
abbrev trS (ws : List Str) (sh : List Sft) : D := trD (TS ws) (sh.map sfD)
structure okTr (ws : List Str) (sh : List Sft) : Prop where
  s : okS ws = true
  n1 : 1 ≤ sh.length
  n8 : sh.length ≤ 8
  t : okT ws [] sh
def namesF (sh : List Sft) : List Str := sh.map (·.n)
def F_Train_does : FT := fun ds st Q E => ∃ (ws : List Str) (sh : List Sft) (d : D), ds = [trS ws sh, d] ∧ okTr ws sh ∧ tyOk d = true ∧ (memD (namesF sh) d = false → E ⟨"BadNumber", [("value", d)]⟩ st) ∧
  ∀ x, d = .str x → x ∈ namesF sh → Q (dnD (lookF (turnF ws sh []) x)) ⟨st.n, st.h ++ [.x]⟩
def wayOf : Dn → Int
  | none => 0
  | some (w, _) => w
def spdOf : Dn → D
  | none => .non
  | some (_, s) => s
def F_Train_way : FT := fun ds st Q E => ∃ (ws : List Str) (sh : List Sft) (d : D), ds = [trS ws sh, d] ∧ okTr ws sh ∧ tyOk d = true ∧ (memD (namesF sh) d = false → E ⟨"BadNumber", [("value", d)]⟩ st) ∧
  ∀ x, d = .str x → x ∈ namesF sh → Q (.int (wayOf (lookF (turnF ws sh []) x))) ⟨st.n, st.h ++ [.x]⟩
def F_Train_speed : FT := fun ds st Q E => ∃ (ws : List Str) (sh : List Sft) (d : D), ds = [trS ws sh, d] ∧ okTr ws sh ∧ tyOk d = true ∧ (memD (namesF sh) d = false → E ⟨"BadNumber", [("value", d)]⟩ st) ∧
  ∀ x, d = .str x → x ∈ namesF sh → Q (spdOf (lookF (turnF ws sh []) x)) ⟨st.n, st.h ++ [.x]⟩
def F_Train_only : FT := fun ds st Q E => ∃ (ws : List Str) (sh : List Sft) (d : D), ds = [trS ws sh, d] ∧ okTr ws sh ∧ tyOk d = true ∧ (∀ k : Nat, d = .int k → 1 ≤ k → k ≤ sh.length → Q (trS ws (sh.take k)) st) ∧ (among 1 sh.length d = false → E ⟨"BadNumber", [("value", d)]⟩ st)
end KT
namespace KT
open PySem L2 VL KL KM KP SS
abbrev sz_added : Nat := 4
def m_added : MS :=
  (mRet (mB tupleD (mCons (mComp [2, 3] (mItA itZ2 (mCons (mVar 0) (mCons (mVar 1) mNil))) (gTp 2 (gCons (gN 2) (gCons (gN 3) gNil))) mYes (mOp addD (mVar 2) (mVar 3))) mNil)))
abbrev sz_times_so : Nat := 3
def m_times_so (Frec : FT) : MS :=
  (mSeq (mIfS (mTst (mOp eqTP (mOp idxD (mVar 0) (mC (.int 0))) (mC (.str "product")))) (mRet (mTup (mCons (mC (.str "product")) (mCons (mCall 2 F_added (mCons (mOp idxD (mVar 0) (mC (.int 1))) (mCons (mVar 1) mNil))) mNil)))) mNext)
  (mRet (mTup (mCons (mOp idxD (mVar 0) (mC (.int 0))) (mCons (mB tupleD (mCons (mComp [2] (mIt itT (mOp idxD (mVar 0) (mC (.int 1)))) (gN 2) mYes (mCall 2 Frec (mCons (mVar 2) (mCons (mVar 1) mNil)))) mNil)) mNil)))))
abbrev sz_ratio : Nat := 4
def m_ratio : MS :=
  (mRet (mB tupleD (mCons (mComp [3] (mIt itT (mVar 0)) (gN 3) mYes (mOp subBD (mOp eqP (mVar 3) (mVar 1)) (mOp eqP (mVar 3) (mVar 2)))) mNil)))
abbrev sz_brought : Nat := 9
def m_brought : MS :=
  (mSeq (mAsg (mVar 2) (gTp 4 (gCons (gN 3) (gCons (gN 4) (gCons (gN 5) (gCons (gN 6) gNil))))))
  (mSeq (mIfS (mTst (mOp (isD false) (mDGet (mVar 1) (mVar 3)) (mC .non))) (mRet (mC .non)) mNext)
  (mSeq (mAsg (mDGet (mVar 1) (mVar 3)) (gTp 2 (gCons (gN 7) (gCons (gN 8) gNil))))
  (mRet (mTup (mCons (mIf (mTst (mOp eqTP (mVar 6) (mC (.str "band")))) (mVar 7) (mUn negD (mVar 7))) (mCons (mCall 2 (F_times_so 9) (mCons (mVar 8) (mCons (mCall 3 F_ratio (mCons (mVar 0) (mCons (mVar 4) (mCons (mVar 5) mNil)))) mNil))) mNil)))))))
abbrev sz_turning : Nat := 13
def m_turning : MS :=
  (mSeq (mSet 2 mDctL)
  (mSeq (mFor (mIt itT (mVar 1)) (gTp 4 (gCons (gN 3) (gCons (gN 4) (gCons (gN 5) (gCons (gN 6) gNil)))))
  (mSeq (mSet 7 (mComp [9] (mIt itL (mComp [12] (mIt itT (mVar 6)) (gN 12) mYes (mCall 3 F_brought (mCons (mVar 0) (mCons (mVar 2) (mCons (mVar 12) mNil)))))) (gN 9) (mTst (mOp (isD true) (mVar 9) (mC .non))) (mVar 9)))
  (mSeq (mSet 8 (mB tupleD (mCons (mComp [10, 11] (mIt itL (mVar 7)) (gTp 2 (gCons (gN 10) (gCons (gN 11) gNil))) (mTst (mOp eqP (mVar 10) (mVar 5))) (mVar 11)) mNil)))
  (mIfS (mTst (mOp eqTP (mVar 4) (mC (.str "hand")))) (mDPut (mVar 2) (mVar 3) (mTup (mCons (mC (.int 1)) (mCons (mTup (mCons (mC (.str "product")) (mCons (mOp mulD (mTup (mCons (mC (.int 0)) mNil)) (mB lenD (mCons (mVar 0) mNil))) mNil))) mNil)))) (mIfS (mTst (mOp eqTP (mVar 4) (mC (.str "fixed")))) (mDPut (mVar 2) (mVar 3) (mIf (mTst (mOp ne0P (mVar 7) (mLst mNil))) (mOp idxD (mVar 7) (mC (.int 0))) (mC .non))) (mIfS (mTst (mOp eq0P (mVar 8) (mTup mNil))) (mDPut (mVar 2) (mVar 3) (mC .non)) (mDPut (mVar 2) (mVar 3) (mTup (mCons (mVar 5) (mCons (mTup (mCons (mIf (mTst (mOp eqTP (mVar 4) (mC (.str "fast")))) (mC (.str "greatest")) (mC (.str "least"))) (mCons (mVar 8) mNil))) mNil))))))))))
  (mRet (mFz (mVar 2)))))
abbrev sz_is_kind : Nat := 1
def m_is_kind : MS :=
  (mRet (mAndD (mUn (isiD isStr) (mVar 0)) (mOp (inD false) (mVar 0) (mC (.tup [.str "band", .str "cross", .str "mesh"])))))
abbrev sz_is_size : Nat := 2
def m_is_size : MS :=
  (mRet (mAndD (mUn (isiD isStr) (mVar 1)) (mOp (inD false) (mVar 1) (mVar 0))))
abbrev sz_is_link : Nat := 3
def m_is_link : MS :=
  (mSeq (mIfS (mOr (mNot (mTru (mUn (isiD isTup) (mVar 2)))) (mOr (mTst (mOp neP (mB lenD (mCons (mVar 2) mNil)) (mC (.int 4)))) (mOr (mNot (mTru (mUn (isiD isStr) (mOp idxD (mVar 2) (mC (.int 0)))))) (mTst (mOp (inD true) (mOp idxD (mVar 2) (mC (.int 0))) (mVar 1)))))) (mRet (mC (.bl false))) mNext)
  (mRet (mAndD (mCall 2 F_is_size (mCons (mVar 0) (mCons (mOp idxD (mVar 2) (mC (.int 1))) mNil))) (mAndD (mCall 2 F_is_size (mCons (mVar 0) (mCons (mOp idxD (mVar 2) (mC (.int 2))) mNil))) (mCall 1 F_is_kind (mCons (mOp idxD (mVar 2) (mC (.int 3))) mNil))))))
abbrev sz_are_links : Nat := 5
def m_are_links : MS :=
  (mSeq (mIfS (mOr (mNot (mTru (mUn (isiD isTup) (mVar 2)))) (mNot (mChainT (ordD (fun i j => decide (i ≤ j)) fun x y => !sLt y x) (ordD (fun i j => decide (i ≤ j)) fun x y => !sLt y x) (mC (.int 1)) (mB lenD (mCons (mVar 2) mNil)) (mVar 3)))) (mRet (mC (.bl false))) mNext)
  (mRet (mB allD (mCons (mComp [4] (mIt itT (mVar 2)) (gN 4) mYes (mCall 3 F_is_link (mCons (mVar 0) (mCons (mVar 1) (mCons (mVar 4) mNil))))) mNil))))
abbrev sz_is_shaft : Nat := 7
def m_is_shaft : MS :=
  (mSeq (mIfS (mOr (mNot (mTru (mUn (isiD isTup) (mVar 2)))) (mOr (mTst (mOp neP (mB lenD (mCons (mVar 2) mNil)) (mC (.int 4)))) (mOr (mNot (mTru (mCall 1 F_is_word (mCons (mOp idxD (mVar 2) (mC (.int 0))) mNil)))) (mTst (mOp (inD false) (mOp idxD (mVar 2) (mC (.int 0))) (mVar 1)))))) (mRet (mC (.bl false))) mNext)
  (mSeq (mAsg (mVar 2) (gTp 4 (gCons (gN 3) (gCons (gN 4) (gCons (gN 5) (gCons (gN 6) gNil))))))
  (mSeq (mIfS (mOr (mNot (mTru (mUn (isiD isStr) (mVar 4)))) (mNot (mTru (mCall 1 F_is_number (mCons (mVar 5) mNil))))) (mRet (mC (.bl false))) mNext)
  (mSeq (mIfS (mTst (mOp eq0P (mVar 1) (mTup mNil))) (mRet (mAndD (mOp eqP (mTup (mCons (mVar 4) (mCons (mVar 5) mNil))) (mTup (mCons (mC (.str "hand")) (mCons (mC (.int 1)) mNil)))) (mAndD (mUn (isiD isTup) (mVar 6)) (mOp eq0P (mVar 6) (mTup mNil))))) mNext)
  (mSeq (mIfS (mTst (mOp eqTP (mVar 4) (mC (.str "fixed")))) (mRet (mAndD (mOp eqP (mVar 5) (mC (.int 0))) (mCall 4 F_are_links (mCons (mVar 0) (mCons (mVar 1) (mCons (mVar 6) (mCons (mC (.int 1)) mNil))))))) mNext)
  (mRet (mAndD (mOp (inT false) (mVar 4) (mTup (mCons (mC (.str "fast")) (mCons (mC (.str "slow")) mNil)))) (mAndD (mOp (inD false) (mVar 5) (mTup (mCons (mC (.int 1)) (mCons (mUn negD (mC (.int 1))) mNil)))) (mCall 4 F_are_links (mCons (mVar 0) (mCons (mVar 1) (mCons (mVar 6) (mCons (mC (.int 3)) mNil)))))))))))))
abbrev sz_Trainu_initu : Nat := 6
def m_Trainu_initu : MS :=
  (mSeq (mDrop (mCall 1 F_need_sizes (mCons (mVar 1) mNil)))
  (mSeq (mIfS (mOr (mNot (mTru (mUn (isi2D isLst isTup) (mVar 2)))) (mNot (mChainT (ordD (fun i j => decide (i ≤ j)) fun x y => !sLt y x) (ordD (fun i j => decide (i ≤ j)) fun x y => !sLt y x) (mC (.int 1)) (mB lenD (mCons (mVar 2) mNil)) (mC (.int 8))))) (mRaise "BadTrain" "place" (mC .non)) mNext)
  (mSeq (mSet 3 (mTup mNil))
  (mSeq (mFor (mItA itE2 (mCons (mVar 2) mNil)) (gTp 2 (gCons (gN 4) (gCons (gN 5) gNil)))
  (mSeq (mIfS (mNot (mTru (mCall 3 F_is_shaft (mCons (mVar 1) (mCons (mVar 3) (mCons (mVar 5) mNil)))))) (mRaise "BadTrain" "place" (mVar 4)) mNext)
  (mSet 3 (mTup (mStar (mVar 3) (mCons (mOp idxD (mVar 5) (mC (.int 0))) mNil))))))
  (mSeq (mFldSet 0 "Train" "sizes" (mVar 1))
  (mFldSet 0 "Train" "shafts" (mB tupleD (mCons (mVar 2) mNil))))))))
abbrev sz_Train_names : Nat := 2
def m_Train_names : MS :=
  (mRet (mB tupleD (mCons (mComp [1] (mIt itT (mUn (fldD "Train" "shafts") (mVar 0))) (gN 1) mYes (mOp idxD (mVar 1) (mC (.int 0)))) mNil)))
abbrev sz_Train_does : Nat := 2
def m_Train_does : MS :=
  (mSeq (mIfS (mOr (mNot (mTru (mUn (isiD isStr) (mVar 1)))) (mTst (mOp (inD true) (mVar 1) (mMethM "Train" "names" 1 F_Train_names (mVar 0) mNil)))) (mRaise "BadNumber" "value" (mVar 1)) mNext)
  (mRet (mDGet (mCall 2 F_turning (mCons (mUn (fldD "Train" "sizes") (mVar 0)) (mCons (mUn (fldD "Train" "shafts") (mVar 0)) mNil))) (mVar 1))))
abbrev sz_Train_way : Nat := 3
def m_Train_way : MS :=
  (mSeq (mSet 2 (mMethM "Train" "does" 2 F_Train_does (mVar 0) (mCons (mVar 1) mNil)))
  (mRet (mIf (mTst (mOp (isD true) (mVar 2) (mC .non))) (mOp idxD (mVar 2) (mC (.int 0))) (mC (.int 0)))))
abbrev sz_Train_speed : Nat := 3
def m_Train_speed : MS :=
  (mSeq (mSet 2 (mMethM "Train" "does" 2 F_Train_does (mVar 0) (mCons (mVar 1) mNil)))
  (mRet (mIf (mTst (mOp (isD true) (mVar 2) (mC .non))) (mOp idxD (mVar 2) (mC (.int 1))) (mC .non))))
abbrev sz_Train_only : Nat := 2
def m_Train_only : MS :=
  (mSeq (mIfS (mNot (mTru (mCall 3 F_is_among (mCons (mVar 1) (mCons (mC (.int 1)) (mCons (mB lenD (mCons (mUn (fldD "Train" "shafts") (mVar 0)) mNil)) mNil)))))) (mRaise "BadNumber" "value" (mVar 1)) mNext)
  (mRet (mMake "Train" 2 F_Trainu_initu (mCons (mUn (fldD "Train" "sizes") (mVar 0)) (mCons (mSl (mUn (fldD "Train" "shafts") (mVar 0)) mNoP (mPart (mVar 1))) mNil)))))
abbrev sz_law_shafts : Nat := 12
def m_law_shafts : MS :=
  (mSeq (mSet 3 (mComp [10] (mIt itT (mC (.tup [.str "b", .str "a", .str "d", .str "c", .str "f", .str "e", .str "h", .str "g"]))) (gN 10) mYes (mOp addD (mVar 10) (mC (.str "s")))))
  (mSeq (mOwn 4 (mCons (mTup (mCons (mOp idxD (mVar 3) (mC (.int 0))) (mCons (mC (.str "hand")) (mCons (mC (.int 1)) (mCons (mTup mNil) mNil))))) mNil))
  (mSeq (mFor (mItA it2 (mCons (mC (.int 1)) (mCons (mOp addD (mC (.int 1)) (mCall 2 F_law_next (mCons (mVar 0) (mCons (mVar 2) mNil)))) mNil))) (gN 5)
  (mSeq (mOwn 6 mNil)
  (mSeq (mFor (mItA it1 (mCons (mOp addD (mC (.int 1)) (mCall 2 F_law_next (mCons (mVar 0) (mCons (mC (.int 3)) mNil)))) mNil)) (gN 7)
  (mSeq (mSet 11 (mTup (mCons (mOp idxD (mVar 1) (mCall 2 F_law_next (mCons (mVar 0) (mCons (mB lenD (mCons (mVar 1) mNil)) mNil)))) (mCons (mOp idxD (mVar 1) (mCall 2 F_law_next (mCons (mVar 0) (mCons (mB lenD (mCons (mVar 1) mNil)) mNil)))) mNil))))
  (mApp 6 (mOp addD (mOp addD (mTup (mCons (mOp idxD (mVar 3) (mCall 2 F_law_next (mCons (mVar 0) (mCons (mVar 5) mNil)))) mNil)) (mVar 11)) (mTup (mCons (mOp idxD (mC (.lst [.str "band", .str "cross", .str "mesh"])) (mCall 2 F_law_next (mCons (mVar 0) (mCons (mC (.int 3)) mNil)))) mNil))))))
  (mSeq (mSet 8 (mOp idxD (mC (.lst [.str "fixed", .str "fast", .str "slow"])) (mCall 2 F_law_next (mCons (mVar 0) (mCons (mC (.int 3)) mNil)))))
  (mSeq (mSet 9 (mIf (mTst (mOp eqTP (mVar 8) (mC (.str "fixed")))) (mC (.int 0)) (mOp idxD (mC (.lst [.int 1, .int (-1), .int 1])) (mCall 2 F_law_next (mCons (mVar 0) (mCons (mC (.int 3)) mNil))))))
  (mApp 4 (mTup (mCons (mOp idxD (mVar 3) (mVar 5)) (mCons (mVar 8) (mCons (mVar 9) (mCons (mB tupleD (mCons (mIf (mTst (mOp eqTP (mVar 8) (mC (.str "fixed")))) (mSl (mVar 6) mNoP (mPart (mC (.int 1)))) (mVar 6)) mNil)) mNil)))))))))))
  (mRet (mVar 4)))))
abbrev sz_law_by : Nat := 4
def m_law_by (Frec : FT) : MS :=
  (mSeq (mIfS (mTst (mOp eqTP (mOp idxD (mVar 0) (mC (.int 0))) (mC (.str "product")))) (mRet (mTup (mCons (mC (.str "product")) (mCons (mB tupleD (mCons (mComp [2, 3] (mItA itZ2 (mCons (mOp idxD (mVar 0) (mC (.int 1))) (mCons (mVar 1) mNil))) (gTp 2 (gCons (gN 2) (gCons (gN 3) gNil))) mYes (mOp addD (mVar 2) (mVar 3))) mNil)) mNil)))) mNext)
  (mRet (mTup (mCons (mOp idxD (mVar 0) (mC (.int 0))) (mCons (mB tupleD (mCons (mComp [2] (mIt itT (mOp idxD (mVar 0) (mC (.int 1)))) (gN 2) mYes (mCall 2 Frec (mCons (mVar 2) (mCons (mVar 1) mNil)))) mNil)) mNil)))))
abbrev sz_law_turning : Nat := 16
def m_law_turning : MS :=
  (mSeq (mSet 2 mDctL)
  (mSeq (mFor (mIt itL (mVar 1)) (gTp 4 (gCons (gN 3) (gCons (gN 4) (gCons (gN 5) (gCons (gN 6) gNil)))))
  (mSeq (mIfS (mTst (mOp eqTP (mVar 4) (mC (.str "hand")))) (mSeq (mDPut (mVar 2) (mVar 3) (mTup (mCons (mC (.int 1)) (mCons (mTup (mCons (mC (.str "product")) (mCons (mOp mulD (mTup (mCons (mC (.int 0)) mNil)) (mB lenD (mCons (mVar 0) mNil))) mNil))) mNil))))
  mCont) mNext)
  (mSeq (mOwn 7 mNil)
  (mSeq (mFor (mIt itT (mVar 6)) (gTp 4 (gCons (gN 8) (gCons (gN 9) (gCons (gN 10) (gCons (gN 11) gNil)))))
  (mIfS (mTst (mOp (isD true) (mDGet (mVar 2) (mVar 8)) (mC .non))) (mSeq (mSet 13 (mB tupleD (mCons (mComp [15] (mIt itT (mVar 0)) (gN 15) mYes (mOp (dI (fun _ _ => True) fun i j => .int (i - j)) (mB intD (mCons (mOp eqP (mVar 15) (mVar 9)) mNil)) (mB intD (mCons (mOp eqP (mVar 15) (mVar 10)) mNil)))) mNil)))
  (mApp 7 (mTup (mCons (mOp mulD (mOp idxD (mDGet (mVar 2) (mVar 8)) (mC (.int 0))) (mIf (mTst (mOp eqTP (mVar 11) (mC (.str "band")))) (mC (.int 1)) (mUn negD (mC (.int 1))))) (mCons (mCall 2 (F_law_by 9) (mCons (mOp idxD (mDGet (mVar 2) (mVar 8)) (mC (.int 1))) (mCons (mVar 13) mNil))) mNil))))) mNext))
  (mSeq (mSet 12 (mComp [14] (mIt itL (mVar 7)) (gN 14) (mOr (mTst (mOp eqTP (mVar 4) (mC (.str "fixed")))) (mTst (mOp eqP (mOp idxD (mVar 14) (mC (.int 0))) (mVar 5)))) (mVar 14)))
  (mSeq (mDPut (mVar 2) (mVar 3) (mIf (mTst (mOp eq0P (mVar 12) (mLst mNil))) (mC .non) (mOp idxD (mVar 12) (mC (.int 0)))))
  (mIfS (mAnd (mTst (mOp ne0P (mVar 12) (mLst mNil))) (mTst (mOp neP (mVar 4) (mC (.str "fixed"))))) (mDPut (mVar 2) (mVar 3) (mTup (mCons (mVar 5) (mCons (mTup (mCons (mIf (mTst (mOp eqTP (mVar 4) (mC (.str "fast")))) (mC (.str "greatest")) (mC (.str "least"))) (mCons (mB tupleD (mCons (mComp [14] (mIt itL (mVar 12)) (gN 14) mYes (mOp idxD (mVar 14) (mC (.int 1)))) mNil)) mNil))) mNil)))) mNext)))))))
  (mRet (mFz (mVar 2)))))
end KT
namespace KT
open PySem L2 VL KL KM KP SS
theorem not_if {b : Bool} {X Y : Prop} (h1 : b = true → Y) (h0 : b = false → X) : if (!b) = true then X else Y := by
  cases b with
  | true => rw [if_neg (by decide)]; exact h1 rfl
  | false => rw [if_pos (by decide)]; exact h0 rfl
theorem cl_ty {d : D} (h : cl d = true) : tyOk d = true := by cases d <;> first | rfl | (simp [clB] at h; done)
theorem clean.part {es : List D} (h : clean (.tup es)) : ∀ x ∈ es, clean x := fun x hx => KP.part_ok h.1 h.2 x hx
theorem clean.ty {d : D} (h : clean d) : tyOk d = true := cl_ty h.1
theorem all_flat : ∀ xs : List Str, (xs.map D.str).all flat = true
  | [] => rfl
  | x :: xs => by rw [List.map_cons, List.all_cons, all_flat xs]; rfl
theorem any_eqF (xs : List Str) (y : Str) : ((xs.map D.str).any fun e => eqF e (.str y)) = memD xs (.str y) := by
  unfold memD
  rw [List.any_map]
  congr 1
  funext z
  show eqF (.str z) (.str y) = isSt z (.str y)
  by_cases h : z = y
  · subst h
    simp [eqF, isSt]
  · have h1 : (z == y) = false := by simpa using h
    have h2 : (y == z) = false := by simpa using fun e : y = z => h e.symm
    simp [eqF, isSt, h1, h2, h, Ne.symm h]
theorem memD_ns {xs : List Str} {d : D} (h : isStr d = false) : memD xs d = false := by
  unfold memD
  rw [List.any_eq_false]
  intro z _
  cases d <;> first | (simp [isSt]; done) | cases h
theorem v_is_kind (ds : List D) (st : Ms) (Q : D → Ms → Prop) (E : Exn → Ms → Prop) (h : F_is_kind ds st Q E) : m_is_kind ⟨startE sz_is_kind ds, st⟩ (endsOf Q E) := by
  obtain ⟨d, rfl, ht, hq⟩ := h
  show m_is_kind ⟨[.dat d], st⟩ (endsOf Q E)
  cases d <;> first | (cases ht; done) | skip
  rotate_right 0
  all_goals refine ⟨ht, ?_⟩
  all_goals first | exact hq | skip
  rename_i x
  refine ⟨⟨rfl, by decide⟩, ?_⟩
  have e : (([D.str "band", .str "cross", .str "mesh"] : List D).any fun e => eqF e (.str x)) = memD kinds3 (.str x) := any_eqF kinds3 x
  show Q (.bl (xor false (([D.str "band", .str "cross", .str "mesh"] : List D).any fun e => eqF e (.str x)))) st
  rw [e, Bool.false_xor]
  exact hq
theorem v_is_size (ds : List D) (st : Ms) (Q : D → Ms → Prop) (E : Exn → Ms → Prop) (h : F_is_size ds st Q E) : m_is_size ⟨startE sz_is_size ds, st⟩ (endsOf Q E) := by
  obtain ⟨ws, d, rfl, ht, hq⟩ := h
  show m_is_size ⟨[.dat (TS ws), .dat d], st⟩ (endsOf Q E)
  by_cases hs : isStr d = true
  · cases d <;> first | (cases hs; done) | skip
    rename_i x
    refine ⟨rfl, ⟨rfl, all_flat ws⟩, ?_⟩
    rw [any_eqF, Bool.false_xor]
    exact hq
  · have hs' : isStr d = false := by simpa using hs
    refine ⟨ht, ?_⟩
    rw [hs']
    rw [memD_ns hs'] at hq
    exact hq
theorem len4 {es : List D} (h : es.length = 4) : ∃ a b c d, es = [a, b, c, d] := by
  match es, h with
  | [a, b, c, d], _ => exact ⟨a, b, c, d, rfl⟩
theorem linkD_no {ws ns : List Str} {es : List D} (h : es.length ≠ 4) : linkD ws ns (.tup es) = false := by
  match es, h with
  | [], _ => rfl
  | [_], _ => rfl
  | [_, _], _ => rfl
  | [_, _, _], _ => rfl
  | _ :: _ :: _ :: _ :: _ :: _, _ => rfl
theorem shaftD_no {ws ns : List Str} {es : List D} (h : es.length ≠ 4) : shaftD ws ns (.tup es) = false := by
  match es, h with
  | [], _ => rfl
  | [_], _ => rfl
  | [_, _], _ => rfl
  | [_, _, _], _ => rfl
  | _ :: _ :: _ :: _ :: _ :: _, _ => rfl
theorem ne4 {es : List D} (h : es.length ≠ 4) : (!((es.length : Int) == 4)) = true := by
  have : ¬ ((es.length : Int) = 4) := by omega
  simpa using this
theorem v_is_link (ds : List D) (st : Ms) (Q : D → Ms → Prop) (E : Exn → Ms → Prop) (h : F_is_link ds st Q E) : m_is_link ⟨startE sz_is_link ds, st⟩ (endsOf Q E) := by
  obtain ⟨ws, ns, d, rfl, hc, hq⟩ := h
  show m_is_link ⟨[.dat (TS ws), .dat (TS ns), .dat d], st⟩ (endsOf Q E)
  cases d with
  | tup es =>
    refine ⟨rfl, ?_⟩
    by_cases h4 : es.length = 4
    · obtain ⟨a, b, c, k, rfl⟩ := len4 h4
      have ha := hc.part a (by simp)
      have hb := hc.part b (by simp)
      have hcc := hc.part c (by simp)
      have hk := hc.part k (by simp)
      refine ⟨_, rfl, a, rfl, ha.ty, ?_⟩
      by_cases hs : isStr a = true
      · rw [hs]
        cases a <;> first | (cases hs; done) | skip
        rename_i x
        refine ⟨_, rfl, ⟨rfl, all_flat ns⟩, ?_⟩
        rw [any_eqF]
        refine ⟨_, rfl, ?_⟩
        have el : linkD ws ns (.tup [.str x, b, c, k]) = (memD ns (.str x) && (memD ws b && (memD ws c && memD kinds3 k))) := rfl
        rw [el] at hq
        cases hm : memD ns (.str x) with
        | false =>
          rw [hm] at hq
          exact hq
        | true =>
          rw [hm, Bool.true_and] at hq
          refine ⟨b, rfl, rfl, ws, b, rfl, hb.ty, ?_⟩
          cases h1 : memD ws b with
          | false => rw [h1] at hq; exact hq
          | true =>
            rw [h1, Bool.true_and] at hq
            refine ⟨c, rfl, rfl, ws, c, rfl, hcc.ty, ?_⟩
            cases h2 : memD ws c with
            | false => rw [h2] at hq; exact hq
            | true =>
              rw [h2, Bool.true_and] at hq
              exact ⟨k, rfl, rfl, k, rfl, hk.ty, hq⟩
      · have hs' : isStr a = false := by simpa using hs
        rw [hs']
        have el : linkD ws ns (.tup [a, b, c, k]) = (memD ns a && (memD ws b && (memD ws c && memD kinds3 k))) := rfl
        rw [el, memD_ns hs'] at hq
        exact hq
    · refine ⟨_, rfl, ?_⟩
      rw [ne4 h4]
      rw [linkD_no h4] at hq
      exact hq
  | _ => exact ⟨hc.ty, hq⟩
theorem v_are_links (ds : List D) (st : Ms) (Q : D → Ms → Prop) (E : Exn → Ms → Prop) (h : F_are_links ds st Q E) : m_are_links ⟨startE sz_are_links ds, st⟩ (endsOf Q E) := by
  obtain ⟨ws, ns, d, most, rfl, hc, hq⟩ := h
  show m_are_links ⟨[.dat (TS ws), .dat (TS ns), .dat d, .dat (.int most), .un], st⟩ (endsOf Q E)
  cases d with
  | tup es =>
    have hle : es.length ≤ 100000 := by
      have := len_wts es
      have := hc.2
      simp only [wt] at this
      omega
    have el : linksD ws ns most (.tup es) = ((decide (1 ≤ es.length) && decide (es.length ≤ most)) && es.all (linkD ws ns)) := rfl
    rw [el] at hq
    refine ⟨rfl, _, rfl, ?_⟩
    have tail : (decide (1 ≤ es.length) && decide (es.length ≤ most)) = true → (mRet (mB allD (mCons (mComp [4] (mIt itT (mVar 2)) (gN 4) mYes (mCall 3 F_is_link (mCons (mVar 0) (mCons (mVar 1) (mCons (mVar 4) mNil))))) mNil))) ⟨[.dat (TS ws), .dat (TS ns), .dat (.tup es), .dat (.int most), .un], st⟩ (endsOf Q E) := fun h => by
      rw [h, Bool.true_and] at hq
      show compR _ _ _ _ es _ [] _
      refine compR_map (fun d => .bl (linkD ws ns d)) es [] (by simp; omega) (fun x hx q hq2 => ⟨rfl, ws, ns, x, rfl, hc.part x hx, hq2⟩) ?_
      refine ⟨es.map (linkD ws ns), by simp, ?_⟩
      have e : es.all (linkD ws ns) = (es.map (linkD ws ns)).all id := by rw [List.all_map]; rfl
      rw [e] at hq
      exact hq
    have hd : decide ((es.length : Int) ≤ (most : Int)) = decide (es.length ≤ most) := by
      by_cases h : es.length ≤ most
      · rw [decide_eq_true h, decide_eq_true (by omega)]
      · rw [decide_eq_false h, decide_eq_false (by omega)]
    refine KL.ite_b (fun h => ?_) (fun h => ?_)
    · have h1 : 1 ≤ es.length := by have := of_decide_eq_true h; omega
      refine ⟨_, rfl, ?_⟩
      refine not_if (b := decide ((es.length : Int) ≤ (most : Int))) (fun h2 => ?_) (fun h2 => ?_)
      · rw [hd] at h2
        exact tail (by rw [decide_eq_true h1, h2]; rfl)
      · rw [hd] at h2
        rw [h2, Bool.and_false, Bool.false_and] at hq
        exact hq
    · have h1 : ¬ 1 ≤ es.length := by have := of_decide_eq_false h; omega
      rw [decide_eq_false h1, Bool.false_and, Bool.false_and] at hq
      exact ⟨_, rfl, hq⟩
  | _ => exact ⟨hc.ty, hq⟩
end KT
namespace KT
open PySem L2 VL KL KM KP SS
theorem ret_and {ma mb : M D} {s : VS} {K : VE} (b : Bool) (ha : ∀ Q : D → VS → Prop, Q (.bl b) s → ma s Q K.ex) (h1 : b = true → (mRet mb) s K) (h0 : b = false → K.rt (.bl false) s.n) : (mRet (mAndD ma mb)) s K := by
  show ma s (fun d s' => truD d fun c => if c = true then mb s' (fun d s' => K.rt d s'.n) K.ex else K.rt d s'.n) K.ex
  refine ha _ ?_
  cases b with
  | true => exact h1 rfl
  | false => exact h0 rfl
theorem eqF_int (a i : Int) : eqF (.int a) (.int i) = (i == a) := by
  have e : eqF (.int a) (.int i) = (a == i) := rfl
  rw [e]
  by_cases h : a = i
  · subst h; rfl
  · have h1 : (a == i) = false := by simpa using h
    have h2 : (i == a) = false := by simpa using fun e : i = a => h e.symm
    rw [h1, h2]
theorem str_len {x : Str} (h : clean (.str x)) : x.length ≤ 100000 := by
  have := h.2
  simp only [wt] at this
  omega
theorem isWord_str {a : D} (h : isWord a = true) : ∃ x, a = .str x := by
  cases a <;> first | exact ⟨_, rfl⟩ | cases h
theorem good_str {x : Str} (h : clean (.str x)) : good (.str x) = true := by
  have := h.1
  simpa only [good, clB] using this
theorem hand_eq {y : Str} {i : Int} (h : clean (.str y)) {Q : D → Prop} (q : Q (.bl (isSt "hand" (.str y) && (i == 1)))) : eqP (.tup [.str y, .int i]) (.tup [.str "hand", .int 1]) Q := by
  have g := good_str h
  refine ⟨⟨?_, by decide +kernel⟩, ?_⟩
  · simp only [deepOk, good, goods, py, pys, PyData.depth, PyData.depthAll] at g ⊢
    simp [g]
  · have e : PyData.eqv (py (.tup [.str y, .int i])) (py (.tup [.str "hand", .int 1])) = (isSt "hand" (.str y) && (i == 1)) := by
      simp only [py, pys, PyData.eqv, PyData.eqvAll, isSt, Bool.and_true]
    rw [e]
    exact q
theorem nil_eq {l : D} (h : clean l) {s : VS} {st : Ms} {Q : D → Prop} {s0 s1 s2 s3 s4 s5 : Slot} {R : D → Ms → Prop} {E : Exn → Ms → Prop} (q : R (.bl (isNil l)) st) :
    (mAndD (mUn (isiD isTup) (mVar 6)) (mOp eq0P (mVar 6) (mTup mNil))) ⟨[s0, s1, s2, s3, s4, s5, .dat l], st⟩ (fun d s' => R d s'.n) (fun x s' => E x s'.n) := by
  cases l with
  | tup es =>
    refine ⟨rfl, (by first | decide | (refine Nat.le_trans ?_ sizeLine_big; first | (simp only [List.length_append, List.length_cons, List.length_nil, List.length_map]; omega) | (simp; omega)) | (refine Nat.lt_of_lt_of_le ?_ sizeLine_big; first | (simp only [List.length_append, List.length_cons, List.length_nil, List.length_map]; omega) | (simp; omega))), ?_⟩
    cases es with
    | nil => exact q
    | cons a r => exact q
  | _ => exact ⟨h.ty, q⟩
def wayD (ws ns : List Str) (m : D) (l : D) : D → Bool
  | .int i => restD ws ns m i l
  | _ => false
theorem shaftD_4 (ws ns : List Str) (a m w l : D) : shaftD ws ns (.tup [a, m, w, l]) = ((isWord a && !memD ns a) && wayD ws ns m l w) := by
  cases w <;> rfl
theorem v_is_shaft (ds : List D) (st : Ms) (Q : D → Ms → Prop) (E : Exn → Ms → Prop) (h : F_is_shaft ds st Q E) : m_is_shaft ⟨startE sz_is_shaft ds, st⟩ (endsOf Q E) := by
  obtain ⟨ws, ns, d, rfl, hc, hq⟩ := h
  show m_is_shaft ⟨[.dat (TS ws), .dat (TS ns), .dat d, .un, .un, .un, .un], st⟩ (endsOf Q E)
  cases d with
  | tup es =>
    refine ⟨rfl, ?_⟩
    by_cases h4 : es.length = 4
    · obtain ⟨a, m, w, l, rfl⟩ := len4 h4
      have ha := hc.part a (by simp)
      have hm := hc.part m (by simp)
      have hw := hc.part w (by simp)
      have hl := hc.part l (by simp)
      rw [shaftD_4] at hq
      refine ⟨_, rfl, a, rfl, rfl, a, rfl, ha.ty, fun x hx => by subst hx; exact str_len ha, ?_⟩
      cases hwd : isWord a with
      | false =>
        rw [hwd] at hq
        exact hq
      | true =>
        rw [hwd, Bool.true_and] at hq
        obtain ⟨x, rfl⟩ := isWord_str hwd
        refine ⟨.str x, rfl, ⟨rfl, all_flat ns⟩, ?_⟩
        rw [any_eqF, Bool.false_xor]
        refine ⟨_, rfl, ?_⟩
        cases hmem : memD ns (.str x) with
        | true =>
          rw [hmem] at hq
          exact hq
        | false =>
          rw [hmem] at hq
          simp only [Bool.not_false, Bool.true_and] at hq
          refine ⟨rfl, rfl, hm.ty, ?_⟩
          by_cases hs : isStr m = true
          · rw [hs]
            obtain ⟨y, rfl⟩ : ∃ y, m = .str y := by cases m <;> first | exact ⟨_, rfl⟩ | cases hs
            refine ⟨rfl, w, rfl, hw.ty, ?_⟩
            by_cases hn : isNum w = true
            · rw [hn]
              obtain ⟨i, rfl⟩ : ∃ i, w = .int i := by cases w <;> first | exact ⟨_, rfl⟩ | cases hn
              have ew : wayD ws ns (.str y) l (.int i) = restD ws ns (.str y) i l := rfl
              rw [ew] at hq
              refine ⟨(by first | decide | (refine Nat.le_trans ?_ sizeLine_big; first | (simp only [List.length_append, List.length_cons, List.length_nil, List.length_map]; omega) | (simp; omega)) | (refine Nat.lt_of_lt_of_le ?_ sizeLine_big; first | (simp only [List.length_append, List.length_cons, List.length_nil, List.length_map]; omega) | (simp; omega))), _, rfl, ?_⟩
              cases ns with
              | nil =>
                have er : restD ws [] (.str y) i l = ((isSt "hand" (.str y) && (i == 1)) && isNil l) := rfl
                rw [er] at hq
                refine ⟨(by first | decide | (refine Nat.le_trans ?_ sizeLine_big; first | (simp only [List.length_append, List.length_cons, List.length_nil, List.length_map]; omega) | (simp; omega)) | (refine Nat.lt_of_lt_of_le ?_ sizeLine_big; first | (simp only [List.length_append, List.length_cons, List.length_nil, List.length_map]; omega) | (simp; omega))), (by first | decide | (refine Nat.le_trans ?_ sizeLine_big; first | (simp only [List.length_append, List.length_cons, List.length_nil, List.length_map]; omega) | (simp; omega)) | (refine Nat.lt_of_lt_of_le ?_ sizeLine_big; first | (simp only [List.length_append, List.length_cons, List.length_nil, List.length_map]; omega) | (simp; omega))), hand_eq hm ?_⟩
                cases hh : (isSt "hand" (.str y) && (i == 1)) with
                | false => rw [hh] at hq; exact hq
                | true =>
                  rw [hh, Bool.true_and] at hq
                  exact nil_eq (s := ⟨[], st⟩) (st := st) (Q := fun _ => True) (R := Q) (E := E) hl hq
              | cons n0 nr =>
                have er : restD ws (n0 :: nr) (.str y) i l = if isSt "fixed" (.str y) then (i == 0) && linksD ws (n0 :: nr) 1 l else (isSt "fast" (.str y) || isSt "slow" (.str y)) && ((i == 1 || i == -1) && linksD ws (n0 :: nr) 3 l) := rfl
                rw [er] at hq
                refine ⟨rfl, _, rfl, ?_⟩
                cases hf : isSt (Str.ofString "fixed") (.str y) with
                | true =>
                  rw [if_pos hf] at hq
                  refine KP.ite_yes rfl ?_
                  refine ret_and (i == 0) (fun Q q => q) (fun h0 => ?_) (fun h0 => ?_)
                  · rw [h0, Bool.true_and] at hq
                    exact ⟨rfl, ws, n0 :: nr, l, 1, rfl, hl, hq⟩
                  · rw [h0] at hq
                    exact hq
                | false =>
                  rw [if_neg (by rw [hf]; decide)] at hq
                  refine KP.ite_no (by decide) ?_
                  dsimp only [mNext]
                  have ea : (xor false (([Str.ofString "fast", Str.ofString "slow"]).any fun z => isSt z (.str y))) = (isSt "fast" (.str y) || isSt "slow" (.str y)) := by simp only [List.any_cons, List.any_nil, Bool.or_false, Bool.false_xor]
                  refine ret_and (xor false (([Str.ofString "fast", Str.ofString "slow"]).any fun z => isSt z (.str y))) (fun Q q => ⟨(by first | decide | (refine Nat.le_trans ?_ sizeLine_big; first | (simp only [List.length_append, List.length_cons, List.length_nil, List.length_map]; omega) | (simp; omega)) | (refine Nat.lt_of_lt_of_le ?_ sizeLine_big; first | (simp only [List.length_append, List.length_cons, List.length_nil, List.length_map]; omega) | (simp; omega))), _, rfl, rfl, q⟩) (fun h1 => ?_) (fun h1 => ?_)
                  · rw [ea] at h1
                    rw [h1, Bool.true_and] at hq
                    have ei : (xor false (([D.int 1, .int (-1)] : List D).any fun e => eqF e (.int i))) = (i == 1 || i == -1) := by
                      simp only [List.any_cons, List.any_nil, eqF_int, Bool.or_false, Bool.false_xor]
                    refine ret_and (xor false (([D.int 1, .int (-1)] : List D).any fun e => eqF e (.int i))) (fun Q q => ⟨(by first | decide | (refine Nat.le_trans ?_ sizeLine_big; first | (simp only [List.length_append, List.length_cons, List.length_nil, List.length_map]; omega) | (simp; omega)) | (refine Nat.lt_of_lt_of_le ?_ sizeLine_big; first | (simp only [List.length_append, List.length_cons, List.length_nil, List.length_map]; omega) | (simp; omega))), ⟨rfl, by decide⟩, q⟩) (fun h2 => ?_) (fun h2 => ?_)
                    · rw [ei] at h2
                      rw [h2, Bool.true_and] at hq
                      exact ⟨rfl, ws, n0 :: nr, l, 3, rfl, hl, hq⟩
                    · rw [ei] at h2
                      rw [h2] at hq
                      exact hq
                  · rw [ea] at h1
                    rw [h1] at hq
                    exact hq
            · have hn' : isNum w = false := by simpa using hn
              rw [hn']
              have e0 : wayD ws ns (.str y) l w = false := by cases w <;> first | rfl | cases hn'
              rw [e0] at hq
              exact hq
          · have hs' : isStr m = false := by simpa using hs
            rw [hs']
            have st0 : ∀ x, isSt x m = false := fun x => by cases m <;> first | rfl | cases hs'
            have e0 : wayD ws ns m l w = false := by
              cases w <;> first | rfl | skip
              simp [wayD, restD, st0]
            rw [e0] at hq
            exact hq
    · refine ⟨_, rfl, ?_⟩
      rw [ne4 h4]
      rw [shaftD_no h4] at hq
      exact hq
  | _ => exact ⟨hc.ty, hq⟩
end KT
namespace KT
open PySem L2 VL KL KM KP SS
theorem strs_of : ∀ {es : List D}, es.all isWord = true → ∃ ws : List Str, es = ws.map .str
  | [], _ => ⟨[], rfl⟩
  | e :: es, h => by
    simp only [List.all_cons, Bool.and_eq_true] at h
    obtain ⟨x, rfl⟩ := isWord_str h.1
    obtain ⟨ws, rfl⟩ := strs_of h.2
    exact ⟨x :: ws, rfl⟩
theorem sizes_is {d : D} (h : isSizes d = true) : ∃ ws, d = TS ws ∧ okS ws = true := by
  cases d <;> first | (cases h; done) | skip
  rename_i es
  simp only [isSizes, Bool.and_eq_true] at h
  obtain ⟨h1, h2, h3, h4⟩ := h
  obtain ⟨ws, rfl⟩ := strs_of h3
  refine ⟨ws, rfl, ?_⟩
  simp only [okS, Bool.and_eq_true]
  rw [List.length_map] at h1 h2
  refine ⟨h1, h2, ?_, ?_⟩
  · rw [List.all_map] at h3
    exact h3
  · rw [← List.map_drop, List.zip_map, List.all_map] at h4
    exact h4
theorem shaft_row {ws ns : List Str} {x : D} (h : shaftD ws ns x = true) : rowS x := by
  cases x <;> first | (cases h; done) | skip
  rename_i es
  by_cases h4 : es.length = 4
  · obtain ⟨a, m, w, l, rfl⟩ := len4 h4
    rw [shaftD_4] at h
    simp only [Bool.and_eq_true] at h
    obtain ⟨y, rfl⟩ := isWord_str h.1.1
    exact ⟨y, m, w, l, rfl⟩
  · rw [shaftD_no h4] at h
    cases h
theorem put_train {d e : D} : putD (Str.ofString "shafts") e (putD (Str.ofString "sizes") d []) = trF d e := rfl
theorem seq_part {e : D} {t : Bool} {xs : List D} (hc : clean e) (h : seqD e = some (t, xs)) : ∀ x ∈ xs, clean x := by
  cases e <;> simp only [seqD] at h <;> cases h
  · exact hc.part
  · exact fun x hx => KP.part_ok (es := xs) (by simpa only [clB] using hc.1) (by simpa only [wt] using hc.2) x hx
theorem v_Trainu_initu (ds : List D) (st : Ms) (Q : List (Str × D) → Ms → Prop) (E : Exn → Ms → Prop) (h : F_Trainu_initu ds st Q E) : m_Trainu_initu ⟨startI sz_Trainu_initu "Train" ds, st⟩ (endsI "Train" Q E) := by
  obtain ⟨d, e, rfl, hd, he, hbs, hok⟩ := h
  show m_Trainu_initu ⟨[.own (.o "Train" []), .dat d, .dat e, .un, .un, .un], st⟩ (endsI "Train" Q E)
  refine ⟨rfl, d, rfl, hd.1, hd.2, fun hs => ?_, hbs⟩
  obtain ⟨ws, rfl, hw⟩ := sizes_is hs
  obtain ⟨h0, h1, h2⟩ := hok ws rfl hw
  have bad : seqD e = none → (isLst e || isTup e) = false := fun h => by cases e <;> first | rfl | cases h
  have ht : tyOk e = true := he.ty
  cases hsq : seqD e with
  | none =>
    have em : madeT ws e = .inl none := by unfold madeT; rw [hsq]
    refine ⟨ht, ?_⟩
    rw [bad hsq]
    exact h0 em
  | some q =>
    obtain ⟨t, xs⟩ := q
    have hx := seq_part he hsq
    have hy : (isLst e || isTup e) = true := by cases e <;> first | (cases hsq; done) | rfl
    have em : madeT ws e = if 1 ≤ xs.length ∧ xs.length ≤ 8 then match badS ws [] xs 0 with
        | some i => .inr i
        | none => .inl (some xs)
        else .inl none := by
      unfold madeT
      rw [hsq]
      first | done | rfl
    have hlen : ∀ (q : D → Prop), q (.int xs.length) → lenD [e] q := fun q hq9 => by
      cases e <;> simp only [seqD] at hsq <;> cases hsq <;> exact hq9
    have htup : ∀ (q : D → Prop), q (.tup xs) → tupleD [e] q := fun q hq9 => by
      cases e <;> simp only [seqD] at hsq <;> cases hsq <;> exact hq9
    refine ⟨ht, ?_⟩
    rw [hy]
    refine hlen _ ?_
    refine ⟨_, rfl, ?_⟩
    have loop : 1 ≤ xs.length → xs.length ≤ 8 → (mSeq (mSet 3 (mTup mNil))
        (mSeq (mFor (mItA itE2 (mCons (mVar 2) mNil)) (gTp 2 (gCons (gN 4) (gCons (gN 5) gNil)))
        (mSeq (mIfS (mNot (mTru (mCall 3 F_is_shaft (mCons (mVar 1) (mCons (mVar 3) (mCons (mVar 5) mNil)))))) (mRaise "BadTrain" "place" (mVar 4)) mNext)
        (mSet 3 (mTup (mStar (mVar 3) (mCons (mOp idxD (mVar 5) (mC (.int 0))) mNil))))))
        (mSeq (mFldSet 0 "Train" "sizes" (mVar 1))
        (mFldSet 0 "Train" "shafts" (mB tupleD (mCons (mVar 2) mNil)))))) ⟨[.own (.o "Train" []), .dat (TS ws), .dat e, .un, .un, .un], st⟩ (endsI "Train" Q E) := fun l1 l8 => by
      rw [if_pos ⟨l1, l8⟩] at em
      refine ⟨(by first | decide | (refine Nat.le_trans ?_ sizeLine_big; first | (simp only [List.length_append, List.length_cons, List.length_nil, List.length_map]; omega) | (simp; omega)) | (refine Nat.lt_of_lt_of_le ?_ sizeLine_big; first | (simp only [List.length_append, List.length_cons, List.length_nil, List.length_map]; omega) | (simp; omega))), t, xs, hsq, ?_⟩
      refine forR_inv (fun items s => ∃ (k : Nat) (ns : List Str) (a b : Slot), items = (VL.numbered xs).drop k ∧ k ≤ xs.length ∧ ns.length = k ∧ s = ⟨[.own (.o "Train" []), .dat (TS ws), .dat e, .dat (TS ns), a, b], st⟩ ∧ badS ws [] xs 0 = badS ws ns (xs.drop k) k) ?_ ?_ _ _ ⟨0, [], _, _, rfl, Nat.zero_le _, rfl, rfl, rfl⟩
      · rintro s ⟨k, ns, a, b, hk, hle, hnl, rfl, hb⟩
        have : k = xs.length := by
          rw [numbered_eq] at hk
          have := mr_nil hk
          omega
        subst this
        rw [List.drop_length] at hb
        have hb' : badS ws [] xs 0 = none := hb
        rw [hb'] at em
        refine ⟨rfl, show 0 < 1000 by decide, ?_⟩
        refine htup _ ?_
        refine ⟨rfl, show 1 < 1000 by decide, ?_⟩
        refine ⟨_, rfl, ?_⟩
        rw [put_train]
        exact h2 xs em
      · rintro d' dss s ⟨k, ns, a, b, hk, hle, hnl, rfl, hb⟩ N hN
        have hk' := hk
        rw [numbered_eq] at hk'
        obtain ⟨hlt, rfl, _⟩ := mr_case hk'
        rw [numbered_drop hlt] at hk
        obtain ⟨_, rfl⟩ := List.cons.inj hk
        have hm : xs.getD k .non ∈ xs := by
          rw [List.getD_eq_getElem?_getD, List.getElem?_eq_getElem hlt]
          exact List.getElem_mem hlt
        have e1 : xs.drop k = xs.getD k .non :: xs.drop (k + 1) := by
          rw [List.drop_eq_getElem_cons hlt, List.getD_eq_getElem?_getD, List.getElem?_eq_getElem hlt]
          rfl
        rw [e1, badS] at hb
        refine ⟨rfl, rfl, rfl, ws, ns, _, rfl, hx _ hm, ?_⟩
        show (if (!shaftD ws ns (xs.getD k .non)) = true then _ else _)
        refine not_if (fun h => ?_) (fun h => ?_)
        · rw [if_pos h] at hb
          obtain ⟨y, m, w, l, ey⟩ := shaft_row h
          rw [ey] at hb ⊢
          refine ⟨.str y, rfl, by rw [List.length_append, List.length_map]; exact Nat.le_trans (show ns.length + 1 ≤ 100 by omega) (by decide), ?_⟩
          have en : ns.map D.str ++ [D.str y] = (ns ++ [y]).map .str := by rw [List.map_append]; rfl
          have main : N ⟨[.own (.o "Train" []), .dat (TS ws), .dat e, .dat (.tup (ns.map D.str ++ [D.str y])), .dat (.int k), .dat (.tup [.str y, m, w, l])], st⟩ := by
            rw [en]
            exact hN _ ⟨k + 1, ns ++ [y], _, _, rfl, hlt, by rw [List.length_append, hnl]; rfl, rfl, hb⟩
          exact main
        · rw [if_neg (by rw [h]; decide)] at hb
          rw [hb] at em
          exact h1 k em
    refine KL.ite_b (fun h => ?_) (fun h => ?_)
    · have l1 : 1 ≤ xs.length := by have := of_decide_eq_true h; omega
      refine ⟨_, rfl, ?_⟩
      refine not_if (b := decide ((xs.length : Int) ≤ 8)) (fun h => ?_) (fun h => ?_)
      · exact loop l1 (by have := of_decide_eq_true h; omega)
      · rw [if_neg (by have := of_decide_eq_false h; omega)] at em
        exact h0 em
    · rw [if_neg (by have := of_decide_eq_false h; omega)] at em
      exact ⟨_, rfl, h0 em⟩
theorem v_Train_names (ds : List D) (st : Ms) (Q : D → Ms → Prop) (E : Exn → Ms → Prop) (h : F_Train_names ds st Q E) : m_Train_names ⟨startE sz_Train_names ds, st⟩ (endsOf Q E) := by
  obtain ⟨d, es, rfl, hl, hr, hq⟩ := h
  show m_Train_names ⟨[.dat (trD d es), .un], st⟩ (endsOf Q E)
  refine ⟨rfl, _, rfl, ?_⟩
  show compR _ _ _ _ es _ [] _
  refine compR_map (fun x => .str (nameOf x)) es [] (by simp; omega) (fun x hx q hq2 => ?_) hq
  obtain ⟨a, m, w, l, rfl⟩ := hr x hx
  exact ⟨_, rfl, hq2⟩
end KT
namespace KT
open PySem L2 VL KL KM KP SS
theorem cleanTS {ws : List Str} (h : okS ws = true) : clean (TS ws) := cl_TS h
theorem init_ok {ws : List Str} {xs : List D} {e : D} {t : Bool} {st : Ms} {Q : List (Str × D) → Ms → Prop} {E : Exn → Ms → Prop} (hw : okS ws = true) (he : clean e) (hse : seqD e = some (t, xs)) (l1 : 1 ≤ xs.length) (l8 : xs.length ≤ 8) (hb : badS ws [] xs 0 = none) (hq : Q (trF (TS ws) (.tup xs)) st) : F_Trainu_initu [TS ws, e] st Q E := by
  have em : madeT ws e = .inl (some xs) := by
    unfold madeT
    rw [hse]
    dsimp only
    rw [if_pos ⟨l1, l8⟩, hb]
  refine ⟨_, _, rfl, cleanTS hw, he, fun h => ?_, fun ws' e' _ => ?_⟩
  · rw [sizes_TS hw] at h
    cases h
  · have ew : ws' = ws := by
      have h := D.tup.inj e'
      have inj : Function.Injective D.str := fun a b h => by cases h; rfl
      exact ((List.map_inj_right (fun _ _ h => inj h)).mp h).symm
    subst ew
    refine ⟨fun h => ?_, fun i h => ?_, fun ys h => ?_⟩
    · rw [em] at h; cases h
    · rw [em] at h; cases h
    · rw [em] at h; cases h; exact hq
end KT
namespace KT
open PySem L2 VL KL KM KP SS
def names8 : List Str := ["bs", "as", "ds", "cs", "fs", "es", "hs", "gs"]
def nm8 (k : Nat) : Str := names8.getD k ""
theorem at_nat {es : List D} {i : Nat} {e : D} (h : es[i]? = some e) : atI es (i : Int) = some e := by
  have hl := (List.getElem?_eq_some_iff.mp h).1
  unfold atI ixN
  rw [if_pos (show (0 : Int) ≤ i by omega), if_pos (show (i : Int) < es.length by omega)]
  simpa using h
theorem memD_mem {xs : List Str} {y : Str} (h : y ∈ xs) : memD xs (.str y) = true := List.any_eq_true.mpr ⟨y, h, by simp [isSt]⟩
theorem nm8_ok : ∀ k : Fin 8, isWord (.str (nm8 k)) = true ∧ memD (names8.take k) (.str (nm8 k)) = false ∧ clB 5 (.str (nm8 k)) = true ∧ wt (.str (nm8 k)) ≤ 9 ∧ dp (.str (nm8 k)) = 0 ∧ names8[(k : Nat)]? = some (nm8 k) ∧ names8.take k ++ [nm8 k] = names8.take (k + 1) := by decide +kernel
theorem bad_app {ws : List Str} {x : D} : ∀ {xs : List D} {ns : List Str} {i : Nat}, badS ws ns xs i = none → shaftD ws (ns ++ xs.map nameOf) x = true → badS ws ns (xs ++ [x]) i = none
  | [], ns, i, _, h => by
    rw [List.map_nil, List.append_nil] at h
    rw [List.nil_append, badS, if_pos h]
    rfl
  | y :: r, ns, i, hb, h => by
    rw [badS] at hb
    rw [List.cons_append, badS]
    split at hb
    · rename_i hs
      rw [if_pos hs]
      refine bad_app hb ?_
      rw [List.append_assoc]
      exact h
    · cases hb
/-- a link that is drawn -/
def Lk (ws : List Str) (k : Nat) (x : D) : Prop := ∃ nm w1 w2 kd, x = .tup [.str nm, .str w1, .str w2, .str kd] ∧ nm ∈ names8.take k ∧ w1 ∈ ws ∧ w2 ∈ ws ∧ kd ∈ kinds3
theorem Lk.link {ws : List Str} {k : Nat} {x : D} (h : Lk ws k x) : linkD ws (names8.take k) x = true := by
  obtain ⟨nm, w1, w2, kd, rfl, h1, h2, h3, h4⟩ := h
  show (memD _ _ && (memD _ _ && (memD _ _ && memD _ _))) = true
  rw [memD_mem h1, memD_mem h2, memD_mem h3, memD_mem h4]
  rfl
theorem word_bd {x : Str} (h : isWord (.str x) = true) : clB 5 (.str x) = true ∧ dp (.str x) ≤ 0 ∧ wt (.str x) ≤ 9 := by
  have h' := h
  simp only [isWord, Bool.and_eq_true, decide_eq_true_eq, List.all_eq_true] at h'
  refine ⟨?_, by simp [dp, pyR, PyData.depth], by simp only [wt]; omega⟩
  simp only [clB]
  refine ok_iff.mpr fun c hc => ?_
  have all : ∀ c ∈ lets.cps.toList, c < 0x110000 := by decide +kernel
  exact all c (by simpa using h'.2.2 c hc)
theorem nm_bd {k : Nat} {nm : Str} (h : nm ∈ names8.take k) : clB 5 (.str nm) = true ∧ dp (.str nm) ≤ 0 ∧ wt (.str nm) ≤ 9 := by
  have hm : nm ∈ names8 := List.mem_of_mem_take h
  have all : ∀ x ∈ names8, isWord (.str x) = true := by decide +kernel
  exact word_bd (all nm hm)
theorem kd_bd {kd : Str} (h : kd ∈ kinds3) : clB 5 (.str kd) = true ∧ dp (.str kd) ≤ 0 ∧ wt (.str kd) ≤ 9 := by
  have all : ∀ x ∈ kinds3, isWord (.str x) = true := by decide +kernel
  exact word_bd (all kd h)
theorem Lk.bd {ws : List Str} {k : Nat} {x : D} (hw : ∀ y ∈ ws, isWord (.str y) = true) (h : Lk ws k x) : clB 5 x = true ∧ dp x ≤ 1 ∧ wt x ≤ 40 := by
  obtain ⟨nm, w1, w2, kd, rfl, h1, h2, h3, h4⟩ := h
  obtain ⟨a1, a2, a3⟩ := nm_bd h1
  obtain ⟨b1, b2, b3⟩ := word_bd (hw w1 h2)
  obtain ⟨c1, c2, c3⟩ := word_bd (hw w2 h3)
  obtain ⟨d1, d2, d3⟩ := kd_bd h4
  have o : KP.Ok 5 0 36 [D.str nm, .str w1, .str w2, .str kd] := ((Ok.one a1 a2 a3).app ((Ok.one b1 b2 b3).app ((Ok.one c1 c2 c3).app (Ok.one d1 d2 d3)))).mono (Nat.le_refl _) (Nat.le_refl _) (by decide)
  obtain ⟨e1, e2, e3⟩ := o.tup
  exact ⟨e1, by omega, by omega⟩
theorem links_row {b k w : Nat} : ∀ {ds : List D}, (∀ d ∈ ds, clB b d = true ∧ dp d ≤ k ∧ wt d ≤ w) → KP.Ok b k (w * ds.length) ds
  | [], _ => ⟨fun _ z => (nomatch z), fun _ z => (nomatch z), by simp [wts]⟩
  | d :: ds, h => by
    obtain ⟨h1, h2, h3⟩ := h d (by simp)
    have ih := links_row (ds := ds) fun e he => h e (by simp [he])
    exact ((Ok.one h1 h2 h3).app ih).mono (Nat.le_refl _) (Nat.le_refl _) (by rw [List.length_cons, Nat.mul_succ]; omega)
/-- a shaft that is drawn -/
theorem new_shaft {ws : List Str} {k : Nat} {m : Str} {i : Int} {ls : List D} (hw : ∀ y ∈ ws, isWord (.str y) = true) (h1 : 1 ≤ k) (h7 : k ≤ 7) (hl : ∀ x ∈ ls, Lk ws k x) (l1 : 1 ≤ ls.length) (l3 : ls.length ≤ 3)
    (hm : (m = "fixed" ∧ i = 0 ∧ ls.length = 1) ∨ ((m = "fast" ∨ m = "slow") ∧ (i = 1 ∨ i = -1))) :
    shaftD ws (names8.take k) (.tup [.str (nm8 k), .str m, .int i, .tup ls]) = true ∧ clB 5 (.tup [.str (nm8 k), .str m, .int i, .tup ls]) = true ∧ dp (.tup [.str (nm8 k), .str m, .int i, .tup ls]) ≤ 3 ∧ wt (.tup [.str (nm8 k), .str m, .int i, .tup ls]) ≤ 400 := by
  obtain ⟨n1, n2, n3, n4, n5, n6, n7⟩ := nm8_ok ⟨k, by omega⟩
  dsimp only at n1 n2 n3 n4 n5 n6 n7
  have hall : ls.all (linkD ws (names8.take k)) = true := List.all_eq_true.mpr fun x hx => (hl x hx).link
  have hne : (names8.take k).isEmpty = false := by
    cases k with
    | zero => omega
    | succ k => rfl
  have elk : ∀ most, linksD ws (names8.take k) most (.tup ls) = ((decide (1 ≤ ls.length) && decide (ls.length ≤ most)) && ls.all (linkD ws (names8.take k))) := fun _ => rfl
  refine ⟨?_, ?_⟩
  · rw [shaftD_4, n1, n2]
    show ((true && !false) && restD ws (names8.take k) (.str m) i (.tup ls)) = true
    unfold restD
    rw [hne, elk, elk, hall, decide_eq_true l1, decide_eq_true l3]
    rcases hm with ⟨rfl, rfl, e1⟩ | ⟨rfl | rfl, rfl | rfl⟩
    · rw [e1]
      generalize isNil (D.tup ls) = u
      revert u
      decide +kernel
    all_goals
      generalize isNil (D.tup ls) = u
      generalize decide (ls.length ≤ 1) = v
      revert u v
      decide +kernel
  · have hmw : clB 5 (.str m) = true ∧ dp (.str m) ≤ 0 ∧ wt (.str m) ≤ 9 := by
      rcases hm with ⟨rfl, _, _⟩ | ⟨rfl | rfl, _⟩ <;> exact word_bd (by decide +kernel)
    obtain ⟨m1, m2, m3⟩ := hmw
    have hi : i.natAbs ≤ 5 := by rcases hm with ⟨_, rfl, _⟩ | ⟨_, rfl | rfl⟩ <;> decide
    obtain ⟨r1, r2, r3⟩ := (links_row (b := 5) (k := 1) (w := 40) fun x hx => (hl x hx).bd hw).tup
    have o : KP.Ok 5 2 300 [D.str (nm8 k), .str m, .int i, .tup ls] := ((Ok.one (k := 2) (w := 9) n3 (by omega) n4).app ((Ok.one (k := 2) (w := 9) m1 (by omega) m3).app ((Ok.one (k := 2) (w := 70) (d := .int i) (by simp only [clB, decide_eq_true_eq]; exact hi) (by simp [dp, pyR, PyData.depth]) (by simp [wt])).app (Ok.one (k := 2) (w := 130) r1 (by omega) (by omega))))).mono (Nat.le_refl _) (Nat.le_refl _) (by decide)
    obtain ⟨e1, e2, e3⟩ := o.tup
    exact ⟨e1, by omega, by omega⟩
end KT
namespace KT
open PySem L2 VL KL KM KP SS
abbrev c0 : MS := (mSet 3 (mComp [10] (mIt itT (mC (.tup [.str "b", .str "a", .str "d", .str "c", .str "f", .str "e", .str "h", .str "g"]))) (gN 10) mYes (mOp addD (mVar 10) (mC (.str "s")))))
abbrev c1 : MS := (mOwn 4 (mCons (mTup (mCons (mOp idxD (mVar 3) (mC (.int 0))) (mCons (mC (.str "hand")) (mCons (mC (.int 1)) (mCons (mTup mNil) mNil))))) mNil))
abbrev c2_0 : MS := (mOwn 6 mNil)
abbrev c2_1_0 : MS := (mSet 11 (mTup (mCons (mOp idxD (mVar 1) (mCall 2 F_law_next (mCons (mVar 0) (mCons (mB lenD (mCons (mVar 1) mNil)) mNil)))) (mCons (mOp idxD (mVar 1) (mCall 2 F_law_next (mCons (mVar 0) (mCons (mB lenD (mCons (mVar 1) mNil)) mNil)))) mNil))))
abbrev c2_1_1 : MS := (mApp 6 (mOp addD (mOp addD (mTup (mCons (mOp idxD (mVar 3) (mCall 2 F_law_next (mCons (mVar 0) (mCons (mVar 5) mNil)))) mNil)) (mVar 11)) (mTup (mCons (mOp idxD (mC (.lst [.str "band", .str "cross", .str "mesh"])) (mCall 2 F_law_next (mCons (mVar 0) (mCons (mC (.int 3)) mNil)))) mNil))))
abbrev c2_1_r1 : MS := c2_1_1
abbrev c2_1_r0 : MS := (mSeq c2_1_0 c2_1_r1)
abbrev c2_1 : MS := (mFor (mItA it1 (mCons (mOp addD (mC (.int 1)) (mCall 2 F_law_next (mCons (mVar 0) (mCons (mC (.int 3)) mNil)))) mNil)) (gN 7) c2_1_r0)
abbrev c2_2 : MS := (mSet 8 (mOp idxD (mC (.lst [.str "fixed", .str "fast", .str "slow"])) (mCall 2 F_law_next (mCons (mVar 0) (mCons (mC (.int 3)) mNil)))))
abbrev c2_3 : MS := (mSet 9 (mIf (mTst (mOp eqTP (mVar 8) (mC (.str "fixed")))) (mC (.int 0)) (mOp idxD (mC (.lst [.int 1, .int (-1), .int 1])) (mCall 2 F_law_next (mCons (mVar 0) (mCons (mC (.int 3)) mNil))))))
abbrev c2_4 : MS := (mApp 4 (mTup (mCons (mOp idxD (mVar 3) (mVar 5)) (mCons (mVar 8) (mCons (mVar 9) (mCons (mB tupleD (mCons (mIf (mTst (mOp eqTP (mVar 8) (mC (.str "fixed")))) (mSl (mVar 6) mNoP (mPart (mC (.int 1)))) (mVar 6)) mNil)) mNil))))))
abbrev c2_r4 : MS := c2_4
abbrev c2_r3 : MS := (mSeq c2_3 c2_r4)
abbrev c2_r2 : MS := (mSeq c2_2 c2_r3)
abbrev c2_r1 : MS := (mSeq c2_1 c2_r2)
abbrev c2_r0 : MS := (mSeq c2_0 c2_r1)
abbrev c2 : MS := (mFor (mItA it2 (mCons (mC (.int 1)) (mCons (mOp addD (mC (.int 1)) (mCall 2 F_law_next (mCons (mVar 0) (mCons (mVar 2) mNil)))) mNil))) (gN 5) c2_r0)
abbrev c3 : MS := (mRet (mVar 4))
abbrev cr3 : MS := c3
abbrev cr2 : MS := (mSeq c2 cr3)
abbrev cr1 : MS := (mSeq c1 cr2)
abbrev cr0 : MS := (mSeq c0 cr1)
theorem nm8_in : ∀ k : Fin 8, ∀ i : Fin 8, (i : Nat) < (k : Nat) → nm8 i ∈ names8.take k := by decide +kernel
theorem nm8_at {i : Nat} (h : i < 8) : (names8.map D.str)[i]? = some (.str (nm8 i)) := by
  obtain ⟨_, _, _, _, _, n6, _⟩ := nm8_ok ⟨i, h⟩
  dsimp only at n6
  rw [List.getElem?_map, n6]
  rfl
section
variable {ws : List Str} {sh L : List D} {k n : Nat} {K : VE} {h : List Cell} {s2 s6 s7 s8 s9 s10 s11 : Slot}
theorem link_ok (hw : okS ws = true) (h1 : 1 ≤ k) (h7 : k ≤ 7) (hL : L.length ≤ 10) (hn : n + 10 < LIM)
    (hK : ∀ (x : D) (t11 : Slot) (n' : Nat), Lk ws k x → n' ≤ n + 4 → K.nx ⟨[.dat .drw, .dat (TS ws), s2, .dat (.lst (names8.map .str)), .own (.l sh), .dat (.int k), .own (.l (L ++ [x])), s7, s8, s9, s10, t11], ⟨n', h⟩⟩) :
    c2_1_r0 ⟨[.dat .drw, .dat (TS ws), s2, .dat (.lst (names8.map .str)), .own (.l sh), .dat (.int k), .own (.l L), s7, s8, s9, s10, s11], ⟨n, h⟩⟩ K := by
  obtain ⟨w1, w5, _, _⟩ := okS_of hw
  have hlw : (ws.map D.str).length = ws.length := List.length_map ..
  refine ⟨rfl, _, rfl, by rw [hlw]; omega, by rw [hlw]; omega, by show n < LIM; omega, fun r1 n1 a1 b1 e1 => ?_⟩
  have e1' : n1 ≤ n + 1 := e1
  obtain ⟨x1, hx1, ex1⟩ := atI_some (xs := ws.map D.str) a1 b1
  obtain ⟨y1, hy1, rfl⟩ := List.mem_map.mp hx1
  refine ⟨_, ex1, rfl, _, rfl, by rw [hlw]; omega, by rw [hlw]; omega, by show n1 < LIM; omega, fun r2 n2 a2 b2 e2 => ?_⟩
  have e2' : n2 ≤ n1 + 1 := e2
  obtain ⟨x2, hx2, ex2⟩ := atI_some (xs := ws.map D.str) a2 b2
  obtain ⟨y2, hy2, rfl⟩ := List.mem_map.mp hx2
  refine ⟨_, ex2, (by first | decide | (refine Nat.le_trans ?_ sizeLine_big; first | (simp only [List.length_append, List.length_cons, List.length_nil, List.length_map]; omega) | (simp; omega)) | (refine Nat.lt_of_lt_of_le ?_ sizeLine_big; first | (simp only [List.length_append, List.length_cons, List.length_nil, List.length_map]; omega) | (simp; omega))), ?_⟩
  refine ⟨rfl, _, rfl, by omega, by omega, by show n2 < LIM; omega, fun r3 n3 a3 b3 e3 => ?_⟩
  have e3' : n3 ≤ n2 + 1 := e3
  obtain ⟨i, rfl⟩ : ∃ i : Nat, r3 = (i : Int) := ⟨r3.toNat, by omega⟩
  have hi : i < k := by omega
  refine ⟨_, at_nat (nm8_at (i := i) (by omega)), (by first | decide | (refine Nat.le_trans ?_ sizeLine_big; first | (simp only [List.length_append, List.length_cons, List.length_nil, List.length_map]; omega) | (simp; omega)) | (refine Nat.lt_of_lt_of_le ?_ sizeLine_big; first | (simp only [List.length_append, List.length_cons, List.length_nil, List.length_map]; omega) | (simp; omega))), (by first | decide | (refine Nat.le_trans ?_ sizeLine_big; first | (simp only [List.length_append, List.length_cons, List.length_nil, List.length_map]; omega) | (simp; omega)) | (refine Nat.lt_of_lt_of_le ?_ sizeLine_big; first | (simp only [List.length_append, List.length_cons, List.length_nil, List.length_map]; omega) | (simp; omega))), ?_⟩
  refine ⟨rfl, 3, rfl, by decide, by decide, by show n3 < LIM; omega, fun r4 n4 a4 b4 e4 => ?_⟩
  have e4' : n4 ≤ n3 + 1 := e4
  obtain ⟨x4, hx4, ex4⟩ := atI_some (xs := kinds3.map D.str) a4 (by simpa [kinds3] using b4)
  obtain ⟨y4, hy4, rfl⟩ := List.mem_map.mp hx4
  refine ⟨_, ex4, (by first | decide | (refine Nat.le_trans ?_ sizeLine_big; first | (simp only [List.length_append, List.length_cons, List.length_nil, List.length_map]; omega) | (simp; omega)) | (refine Nat.lt_of_lt_of_le ?_ sizeLine_big; first | (simp only [List.length_append, List.length_cons, List.length_nil, List.length_map]; omega) | (simp; omega))), (by first | decide | (refine Nat.le_trans ?_ sizeLine_big; first | (simp only [List.length_append, List.length_cons, List.length_nil, List.length_map]; omega) | (simp; omega)) | (refine Nat.lt_of_lt_of_le ?_ sizeLine_big; first | (simp only [List.length_append, List.length_cons, List.length_nil, List.length_map]; omega) | (simp; omega))), Nat.lt_of_le_of_lt (show L.length ≤ 100 by omega) (by decide), ?_⟩
  exact hK _ _ n4 ⟨nm8 i, y1, y2, y4, rfl, nm8_in ⟨k, by omega⟩ ⟨i, by omega⟩ hi, hy1, hy2, hy4⟩ (by omega)
/-- shafts as far as they are drawn -/
structure Sofar (ws : List Str) (k : Nat) (sh : List D) : Prop where
  len : sh.length = k
  bad : badS ws [] sh 0 = none
  nam : sh.map nameOf = names8.take k
  row : ∀ x ∈ sh, rowS x
  bd : ∀ x ∈ sh, clB 5 x = true ∧ dp x ≤ 3 ∧ wt x ≤ 400
  fst : sh[0]? = some (.tup [.str "bs", .str "hand", .int 1, .tup []])
theorem sofar_1 {ws : List Str} : Sofar ws 1 [.tup [.str "bs", .str "hand", .int 1, .tup []]] := by
  refine ⟨rfl, ?_, by decide +kernel, fun x hx => ?_, fun x hx => ?_, rfl⟩
  · have : shaftD ws [] (.tup [.str "bs", .str "hand", .int 1, .tup []]) = true := by
      have : ∀ ws, shaftD ws [] (.tup [.str "bs", .str "hand", .int 1, .tup []]) = shaftD [] [] (.tup [.str "bs", .str "hand", .int 1, .tup []]) := fun ws => rfl
      rw [this]
      decide +kernel
    rw [badS, if_pos this]
    rfl
  · rw [List.mem_singleton.mp hx]
    exact ⟨_, _, _, _, rfl⟩
  · rw [List.mem_singleton.mp hx]
    decide +kernel
theorem Sofar.next {ws : List Str} {k : Nat} {sh : List D} {m : Str} {i : Int} {ls : List D} (S : Sofar ws k sh) (hw : okS ws = true) (h1 : 1 ≤ k) (h7 : k ≤ 7) (hl : ∀ x ∈ ls, Lk ws k x) (l1 : 1 ≤ ls.length) (l3 : ls.length ≤ 3)
    (hm : (m = "fixed" ∧ i = 0 ∧ ls.length = 1) ∨ ((m = "fast" ∨ m = "slow") ∧ (i = 1 ∨ i = -1))) : Sofar ws (k + 1) (sh ++ [.tup [.str (nm8 k), .str m, .int i, .tup ls]]) := by
  obtain ⟨_, _, w3, _⟩ := okS_of hw
  obtain ⟨a, b⟩ := new_shaft (ws := ws) w3 h1 h7 hl l1 l3 hm
  obtain ⟨_, _, _, _, _, _, n7⟩ := nm8_ok ⟨k, by omega⟩
  dsimp only at n7
  refine ⟨by rw [List.length_append, S.len]; rfl, bad_app S.bad (by rw [List.nil_append, S.nam]; exact a), ?_, fun x hx => ?_, fun x hx => ?_, ?_⟩
  · rw [List.map_append, S.nam]
    exact n7
  · rcases List.mem_append.mp hx with z | z
    · exact S.row x z
    · rw [List.mem_singleton.mp z]; exact ⟨_, _, _, _, rfl⟩
  · rcases List.mem_append.mp hx with z | z
    · exact S.bd x z
    · rw [List.mem_singleton.mp z]; exact b
  · rw [List.getElem?_append_left (by rw [S.len]; omega)]
    exact S.fst
theorem one_ok (hw : okS ws = true) (h1 : 1 ≤ k) (h7 : k ≤ 7) (S : Sofar ws k sh) (hn : n + 50 < LIM)
    (hK : ∀ (sh' : List D) (t6 t7 t8 t9 t11 : Slot) (n' : Nat), Sofar ws (k + 1) sh' → n' ≤ n + 20 → K.nx ⟨[.dat .drw, .dat (TS ws), s2, .dat (.lst (names8.map .str)), .own (.l sh'), .dat (.int k), t6, t7, t8, t9, s10, t11], ⟨n', h⟩⟩) :
    c2_r0 ⟨[.dat .drw, .dat (TS ws), s2, .dat (.lst (names8.map .str)), .own (.l sh), .dat (.int k), s6, s7, s8, s9, s10, s11], ⟨n, h⟩⟩ K := by
  refine ⟨(by first | decide | (refine Nat.le_trans ?_ sizeLine_big; first | (simp only [List.length_append, List.length_cons, List.length_nil, List.length_map]; omega) | (simp; omega)) | (refine Nat.lt_of_lt_of_le ?_ sizeLine_big; first | (simp only [List.length_append, List.length_cons, List.length_nil, List.length_map]; omega) | (simp; omega))), ?_⟩
  refine ⟨rfl, 3, rfl, by decide, by decide, by show n < LIM; omega, fun r n1 r0 r1 e1 => ?_⟩
  have e1' : n1 ≤ n + 1 := e1
  refine ⟨by omega, by omega, ?_⟩
  have hr3 : (1 + r).toNat ≤ 3 := by omega
  have hr1 : 1 ≤ (1 + r).toNat := by omega
  generalize (1 + r).toNat = c at hr3 hr1
  have fin : ∀ (L : List D) (t7 t11 : Slot) (n2 : Nat), L.length = c → (∀ x ∈ L, Lk ws k x) → n2 ≤ n + 14 → c2_r2 ⟨[.dat .drw, .dat (TS ws), s2, .dat (.lst (names8.map .str)), .own (.l sh), .dat (.int k), .own (.l L), t7, s8, s9, s10, t11], ⟨n2, h⟩⟩ K := by
    intro L t7 t11 n2 hL hx e2
    refine ⟨rfl, 3, rfl, by decide, by decide, by show n2 < LIM; omega, fun r n3 a3 b3 e3 => ?_⟩
    have e3' : n3 ≤ n2 + 1 := e3
    obtain ⟨x, hx3, ex⟩ := atI_some (xs := [D.str "fixed", .str "fast", .str "slow"]) a3 (by simpa using b3)
    refine ⟨_, ex, ?_⟩
    have last : ∀ (m : Str) (i : Int) (ls : List D) (n4 : Nat), n4 ≤ n + 20 → (∀ x ∈ ls, Lk ws k x) → 1 ≤ ls.length → ls.length ≤ 3 → ((m = "fixed" ∧ i = 0 ∧ ls.length = 1) ∨ ((m = "fast" ∨ m = "slow") ∧ (i = 1 ∨ i = -1))) →
        ∀ t6 : Slot, K.nx ⟨[.dat .drw, .dat (TS ws), s2, .dat (.lst (names8.map .str)), .own (.l (sh ++ [.tup [.str (nm8 k), .str m, .int i, .tup ls]])), .dat (.int k), t6, t7, .dat (.str m), .dat (.int i), s10, t11], ⟨n4, h⟩⟩ := fun m i ls n4 e4 hl l1 l3 hm t6 =>
      hK _ _ _ _ _ _ n4 (S.next hw h1 h7 hl l1 l3 hm) e4
    have hsl : sh.length < sizeLine := Nat.lt_of_le_of_lt (show sh.length ≤ 100 by rw [S.len]; omega) (by decide)
    have hcut : cutG L none (some 1) = L.take 1 := KL.cut_to L (i := 1) (by omega)
    have fast : ∀ m : Str, m = "fast" ∨ m = "slow" → c2_r3 ⟨[.dat .drw, .dat (TS ws), s2, .dat (.lst (names8.map .str)), .own (.l sh), .dat (.int k), .own (.l L), t7, .dat (.str m), s9, s10, t11], ⟨n3, h⟩⟩ K := by
      intro m hm
      have hf : isSt (Str.ofString "fixed") (.str m) = false := by rcases hm with rfl | rfl <;> decide +kernel
      have go : ∀ i : Int, (i = 1 ∨ i = -1) → ∀ n4, n4 ≤ n3 + 1 → c2_r4 ⟨[.dat .drw, .dat (TS ws), s2, .dat (.lst (names8.map .str)), .own (.l sh), .dat (.int k), .own (.l L), t7, .dat (.str m), .dat (.int i), s10, t11], ⟨n4, h⟩⟩ K := by
        intro i hi n4 e4
        refine ⟨_, at_nat (nm8_at (i := k) (by omega)), rfl, _, rfl, ?_⟩
        refine KP.ite_no (by rw [hf]; decide) ?_
        exact ⟨(by first | decide | (refine Nat.le_trans ?_ sizeLine_big; first | (simp only [List.length_append, List.length_cons, List.length_nil, List.length_map]; omega) | (simp; omega)) | (refine Nat.lt_of_lt_of_le ?_ sizeLine_big; first | (simp only [List.length_append, List.length_cons, List.length_nil, List.length_map]; omega) | (simp; omega))), hsl, last m i L n4 (by omega) hx (by omega) (by omega) (.inr ⟨hm, hi⟩) _⟩
      refine ⟨rfl, _, rfl, ?_⟩
      refine KP.ite_no (by rw [hf]; decide) ?_
      refine ⟨rfl, 3, rfl, by decide, by decide, by show n3 < LIM; omega, fun r n4 a4 b4 e4 => ?_⟩
      obtain ⟨y, hy, ey⟩ := atI_some (xs := [D.int 1, .int (-1), .int 1]) a4 (by simpa using b4)
      refine ⟨_, ey, ?_⟩
      simp only [List.mem_cons, List.not_mem_nil, or_false] at hy
      rcases hy with rfl | rfl | rfl
      · exact go 1 (.inl rfl) n4 e4
      · exact go (-1) (.inr rfl) n4 e4
      · exact go 1 (.inl rfl) n4 e4
    simp only [List.mem_cons, List.not_mem_nil, or_false] at hx3
    rcases hx3 with rfl | rfl | rfl
    · have hf : isSt (Str.ofString "fixed") (.str "fixed") = true := by decide +kernel
      refine ⟨rfl, _, rfl, ?_⟩
      refine KP.ite_yes hf ?_
      refine ⟨_, at_nat (nm8_at (i := k) (by omega)), rfl, _, rfl, ?_⟩
      refine KP.ite_yes hf ?_
      have main : sh.length < sizeLine ∧ K.nx ⟨[.dat .drw, .dat (TS ws), s2, .dat (.lst (names8.map .str)), .own (.l (sh ++ [.tup [.str (nm8 k), .str "fixed", .int 0, .tup (cutG L none (some 1))]])), .dat (.int k), .dat (.lst L), t7, .dat (.str "fixed"), .dat (.int 0), s10, t11], ⟨n3, h⟩⟩ := by
        rw [hcut]
        have l1 : (L.take 1).length = 1 := by rw [List.length_take]; omega
        exact ⟨hsl, last "fixed" 0 (L.take 1) n3 (by omega) (fun x hx' => hx x (List.mem_of_mem_take hx')) (by omega) (by omega) (.inl ⟨rfl, rfl, l1⟩) _⟩
      exact ⟨(by first | decide | (refine Nat.le_trans ?_ sizeLine_big; first | (simp only [List.length_append, List.length_cons, List.length_nil, List.length_map]; omega) | (simp; omega)) | (refine Nat.lt_of_lt_of_le ?_ sizeLine_big; first | (simp only [List.length_append, List.length_cons, List.length_nil, List.length_map]; omega) | (simp; omega))), main⟩
    · exact fast _ (.inl rfl)
    · exact fast _ (.inr rfl)
  show forR (gN 7) c2_1_r0 (rng 0 c) ⟨[.dat .drw, .dat (TS ws), s2, .dat (.lst (names8.map .str)), .own (.l sh), .dat (.int k), .own (.l []), s7, s8, s9, s10, s11], ⟨n1, h⟩⟩ _
  refine forR_inv (fun items s => ∃ (L : List D) (t7 t11 : Slot) (n2 : Nat), L.length + items.length = c ∧ (∀ x ∈ L, Lk ws k x) ∧ n2 + 4 * items.length ≤ n + 13 ∧ s = ⟨[.dat .drw, .dat (TS ws), s2, .dat (.lst (names8.map .str)), .own (.l sh), .dat (.int k), .own (.l L), t7, s8, s9, s10, t11], ⟨n2, h⟩⟩) ?_ ?_ _ _ ⟨[], _, _, n1, by rw [rng_len]; simp, fun x hx => (nomatch hx), by rw [rng_len]; omega, rfl⟩
  · rintro s ⟨L, t7, t11, n2, hL, hx, e2, rfl⟩
    exact fin L t7 t11 n2 (by simpa using hL) hx (by simp at e2; omega)
  · rintro d dss s ⟨L, t7, t11, n2, hL, hx, e2, rfl⟩ N hN
    rw [List.length_cons] at hL e2
    refine link_ok (n := n2) (s7 := .dat d) hw h1 h7 (by omega) (by omega) fun x t11 n3 hxx e3 => hN _ ⟨L ++ [x], _, _, n3, by rw [List.length_append, List.length_singleton]; omega, fun y hy => ?_, by omega, rfl⟩
    rcases List.mem_append.mp hy with z | z
    · exact hx y z
    · rw [List.mem_singleton.mp z]; exact hxx
end
theorem rng_succ (lo : Int) (m : Nat) : rng lo (m + 1) = .int lo :: rng (lo + 1) m := by
  unfold rng
  rw [List.range_succ_eq_map, List.map_cons, List.map_map]
  refine List.cons_eq_cons.mpr ⟨by simp, ?_⟩
  refine List.map_congr_left fun i _ => ?_
  show D.int (lo + ((i + 1 : Nat) : Int)) = D.int (lo + 1 + (i : Int))
  congr 1
  omega
theorem loop_ok {ws : List Str} {h : List Cell} {K : VE} {s2 s10 : Slot} (hw : okS ws = true) : ∀ (m k : Nat) (sh : List D) (n : Nat) (s5 s6 s7 s8 s9 s11 : Slot), 1 ≤ k → k + m ≤ 8 → Sofar ws k sh → n + 20 * m + 60 < LIM →
    (∀ (sh' : List D) (t5 t6 t7 t8 t9 t11 : Slot) (n' : Nat), Sofar ws (k + m) sh' → n' ≤ n + 20 * m → K.nx ⟨[.dat .drw, .dat (TS ws), s2, .dat (.lst (names8.map .str)), .own (.l sh'), t5, t6, t7, t8, t9, s10, t11], ⟨n', h⟩⟩) →
    forR (gN 5) c2_r0 (rng (k : Int) m) ⟨[.dat .drw, .dat (TS ws), s2, .dat (.lst (names8.map .str)), .own (.l sh), s5, s6, s7, s8, s9, s10, s11], ⟨n, h⟩⟩ K
  | 0, k, sh, n, s5, s6, s7, s8, s9, s11, h1, h8, S, hn, hK => hK sh _ _ _ _ _ _ n S (by omega)
  | m + 1, k, sh, n, s5, s6, s7, s8, s9, s11, h1, h8, S, hn, hK => by
    rw [rng_succ]
    refine one_ok (k := k) (n := n) hw h1 (by omega) S (by omega) fun sh' t6 t7 t8 t9 t11 n' S' hn' => ?_
    have e : ((k : Int) + 1) = ((k + 1 : Nat) : Int) := by omega
    rw [e]
    refine loop_ok hw m (k + 1) sh' n' _ _ _ _ _ _ (by omega) (by omega) S' (by omega) fun sh2 t5 t6 t7 t8 t9 t11 n2 S2 h2 => ?_
    rw [show k + 1 + m = k + (m + 1) by omega] at S2
    exact hK sh2 _ _ _ _ _ _ n2 S2 (by omega)
theorem seq_comp {vs : List Nat} {tgt : MG} {tt : M Bool} {me : M D} {i : Nat} {rest : MS} {s : VS} {K : VE} {L : List D} (h : compR (hideE vs s.e) tgt tt me L s.n [] fun acc n => rest ⟨s.e.set i (.dat (.lst acc)), n⟩ K) : (mSeq (mSet i (mComp vs (mIt itT (mC (.tup L))) tgt tt me)) rest) s K := h
abbrev stems : List Str := ["b", "a", "d", "c", "f", "e", "h", "g"]
theorem stems_eq : (stems.map fun x : Str => x ++ Str.ofString "s") = names8 := by decide +kernel
theorem stems_len : ∀ x ∈ stems, x.length + (Str.ofString "s").length ≤ sizeLine := by decide +kernel
theorem v_law_shafts (ds : List D) (st : Ms) (Q : D → Ms → Prop) (E : Exn → Ms → Prop) (h : F_law_shafts ds st Q E) : m_law_shafts ⟨startE sz_law_shafts ds, st⟩ (endsOf Q E) := by
  obtain ⟨n, hh⟩ := st
  obtain ⟨ws, mo, rfl, mo1, mo8, hw, hn, hq⟩ := h
  have hn' : n + 400 < LIM := hn
  show cr0 ⟨[.dat .drw, .dat (TS ws), .dat (.int mo), .un, .un, .un, .un, .un, .un, .un, .un, .un], ⟨n, hh⟩⟩ (endsOf Q E)
  refine seq_comp (L := stems.map D.str) ?_
  refine compR_mapT D.str (fun x => .str (x ++ Str.ofString "s")) stems [] (by decide) (fun x hx q hq2 => ⟨stems_len x hx, hq2⟩) ?_
  have e8 : ([] : List D) ++ stems.map (fun x => D.str (x ++ Str.ofString "s")) = names8.map .str := by
    rw [List.nil_append, ← stems_eq, List.map_map]
    rfl
  rw [e8]
  show cr1 ⟨[.dat .drw, .dat (TS ws), .dat (.int mo), .dat (.lst (names8.map .str)), .un, .un, .un, .un, .un, .un, .un, .un], ⟨n, hh⟩⟩ (endsOf Q E)
  refine ⟨_, at_nat (nm8_at (i := 0) (by decide)), (by first | decide | (refine Nat.le_trans ?_ sizeLine_big; first | (simp only [List.length_append, List.length_cons, List.length_nil, List.length_map]; omega) | (simp; omega)) | (refine Nat.lt_of_lt_of_le ?_ sizeLine_big; first | (simp only [List.length_append, List.length_cons, List.length_nil, List.length_map]; omega) | (simp; omega))), (by first | decide | (refine Nat.le_trans ?_ sizeLine_big; first | (simp only [List.length_append, List.length_cons, List.length_nil, List.length_map]; omega) | (simp; omega)) | (refine Nat.lt_of_lt_of_le ?_ sizeLine_big; first | (simp only [List.length_append, List.length_cons, List.length_nil, List.length_map]; omega) | (simp; omega))), (by first | decide | (refine Nat.le_trans ?_ sizeLine_big; first | (simp only [List.length_append, List.length_cons, List.length_nil, List.length_map]; omega) | (simp; omega)) | (refine Nat.lt_of_lt_of_le ?_ sizeLine_big; first | (simp only [List.length_append, List.length_cons, List.length_nil, List.length_map]; omega) | (simp; omega))), ?_⟩
  refine ⟨rfl, mo, rfl, by omega, by omega, by show n < LIM; omega, fun r n1 r0 r1 e1 => ?_⟩
  have e1' : n1 ≤ n + 1 := e1
  refine ⟨⟨by decide, by decide, by omega, by omega⟩, ?_⟩
  have e2 : (1 + r - 1).toNat = r.toNat := by omega
  rw [e2]
  have h7 : r.toNat ≤ 7 := by omega
  refine loop_ok hw r.toNat 1 [.tup [.str "bs", .str "hand", .int 1, .tup []]] n1 _ _ _ _ _ _ (Nat.le_refl _) (by omega) sofar_1 (by omega) fun sh' t5 t6 t7 t8 t9 t11 n2 S h2 => ?_
  exact hq sh' n2 ⟨by rw [S.len]; omega, by rw [S.len]; omega, S.bad, S.row, S.bd, S.fst⟩ (by rw [S.len]; omega) (by show n2 ≤ n + 200; omega)
end KT
namespace KP
open PySem L2 VL KL SS
end KP
namespace KT
open PySem L2 VL KL KM KP SS
theorem compR_mf {T : Type} {e : List Slot} {tgt : MG} {tt : M Bool} {me : M D} {n : Ms} {Q : List D → Ms → Prop} (enc f : T → D) (p : T → Bool) : ∀ (xs : List T) (acc : List D), acc.length + xs.length ≤ 1000000 →
    (∀ x ∈ xs, ∀ q : D → Ms → Prop, ∀ r : Ms → Prop, (p x = true → q (f x) n) → (p x = false → r n) → tgt (enc x) ⟨e, n⟩ fun s1 => tt s1 (fun b s2 => if b = true then me s2 (fun y s3 => q y s3.n) (fun _ _ => False) else r s2.n) fun _ _ => False) →
    Q (acc ++ (xs.filter p).map f) n → compR e tgt tt me (xs.map enc) n acc Q
  | [], acc, _, _, h => by simpa [compR] using h
  | x :: xs, acc, hl, hs, h => by
    rw [List.length_cons] at hl
    refine hs x (by simp) (fun y n' => acc.length < sizeLine ∧ compR e tgt tt me (xs.map enc) n' (acc ++ [y]) Q) (fun n' => compR e tgt tt me (xs.map enc) n' acc Q) (fun hp => ⟨Nat.lt_of_le_of_lt (show acc.length ≤ 1000000 by omega) (by decide), ?_⟩) fun hp => ?_
    · exact compR_mf enc f p xs (acc ++ [f x]) (by rw [List.length_append, List.length_singleton]; omega) (fun y hy => hs y (by simp [hy])) (by rw [List.filter_cons, if_pos hp] at h; simpa using h)
    · exact compR_mf enc f p xs acc (by omega) (fun y hy => hs y (by simp [hy])) (by rw [List.filter_cons, if_neg (by simp [hp])] at h; exact h)
theorem sp_mono {k : Int} : ∀ (j : Nat) (d : D), isSp k j d = true → isSp k (j + 1) d = true
  | 0, d, h => by cases h
  | j + 1, d, h => by
    simp only [isSp] at h ⊢
    cases hn : nodeOk k d with
    | none => rw [hn] at h; cases h
    | some cs =>
      rw [hn] at h
      exact List.all_eq_true.mpr fun c hc => sp_mono j c (List.all_eq_true.mp h c hc)
theorem sp_le {k : Int} {d : D} {i : Nat} (h : isSp k i d = true) : ∀ {j : Nat}, i ≤ j → isSp k j d = true
  | j, hij => by
    induction j with
    | zero => rw [show i = 0 by omega] at h; exact h
    | succ j ih =>
      by_cases q : i = j + 1
      · rw [← q]; exact h
      · exact sp_mono j d (ih (by omega))
theorem addI_len {a b : List Int} (h : a.length = b.length) : (addI a b).length = b.length := by
  unfold addI
  rw [List.length_map, List.length_zip, h]
  exact Nat.min_self _
theorem isSt_eq {x : Str} {d : D} (h : isSt x d = true) : d = .str x := by
  cases d <;> first | (cases h; done) | skip
  simp [isSt] at h
  rw [h]
theorem ratio_len (ws : List Str) (a b : Str) : (ratioF ws a b).length = ws.length := List.length_map ..
theorem ratio_bd {ws : List Str} {a b : Str} : ∀ i ∈ ratioF ws a b, i.natAbs ≤ 1 := fun i hi => by
  obtain ⟨z, _, rfl⟩ := List.mem_map.mp hi
  split <;> split <;> decide
theorem ints_b {b : Nat} : ∀ {ds : List D}, clBs b ds = true → ∀ i ∈ intsL ds, i.natAbs ≤ b
  | [], _, i, hi => by cases hi
  | d :: ds, h, i, hi => by
    simp only [clBs, Bool.and_eq_true] at h
    cases d
    all_goals try (exact ints_b h.2 i hi)
    rename_i z
    rcases List.mem_cons.mp hi with rfl | hi
    · simpa only [clB, decide_eq_true_eq] using h.1
    · exact ints_b h.2 i hi
theorem times_ok {k : Nat} {ps : List Int} (hl : ps.length = k) (hb : ∀ i ∈ ps, i.natAbs ≤ 1) {b : Nat} : ∀ (f j : Nat) (d : D), j ≤ f → isSp k j d = true → clB b d = true → isSp k j (timesD ps f d) = true ∧ clB (b + 1) (timesD ps f d) = true
  | 0, j, d, hj, h, _ => by
    rw [show j = 0 by omega] at h
    cases h
  | f + 1, 0, d, hj, h, _ => by cases h
  | f + 1, j + 1, d, hj, h, hc => by
    simp only [isSp] at h
    cases hn : nodeOk k d with
    | none => rw [hn] at h; cases h
    | some cs =>
    rw [hn] at h
    obtain ⟨hd, ds, rfl, ⟨h1, h2, rfl⟩ | ⟨h1, h2, h3, h4, rfl⟩⟩ := nodeOk_some hn
    · obtain ⟨e1, e2⟩ := nums_ints h2
      have e2' : (intsL ds).length = k := by omega
      have e3 := addI_len (a := intsL ds) (b := ps) (by rw [e2', hl])
      simp only [timesD, h1, if_true]
      have hn2 : nodeOk k (.tup [.str "product", .tup ((addI (intsL ds) ps).map .int)]) = some [] := by
        rw [nodeOk_2, if_pos (isSt_self _), if_pos (ints_areN (by rw [e3, hl]))]
      refine ⟨?_, ?_⟩
      · simp only [isSp, hn2]
        rfl
      · simp only [clB, clBs, Bool.and_true, Bool.and_eq_true] at hc
        have hi : ∀ i ∈ intsL ds, i.natAbs ≤ b := ints_b hc.2
        simp only [clB, clBs, Bool.and_true, Bool.and_eq_true]
        refine ⟨ok_ofString _, ints_cl fun i hi' => ?_⟩
        obtain ⟨⟨x, y⟩, hxy, rfl⟩ := List.mem_map.mp hi'
        have h1 := hi x (List.of_mem_zip hxy).1
        have h2 := hb y (List.of_mem_zip hxy).2
        show (x + y).natAbs ≤ b + 1
        omega
    · simp only [clB, clBs, Bool.and_true, Bool.and_eq_true] at hc
      simp only [timesD, h1, Bool.false_eq_true, if_false]
      have ih : ∀ c ∈ cs, isSp k j (timesD ps f c) = true ∧ clB (b + 1) (timesD ps f c) = true := fun c hc' => times_ok hl hb f j c (by omega) (List.all_eq_true.mp h c hc') (cls_iff.mp hc.2 c hc')
      have hn2 : nodeOk k (.tup [hd, .tup (cs.map (timesD ps f))]) = some (cs.map (timesD ps f)) := by
        rw [nodeOk_2, if_neg (by rw [h1]; decide), h2, List.length_map, decide_eq_true h3, decide_eq_true h4]
        rfl
      refine ⟨?_, ?_⟩
      · simp only [isSp, hn2]
        refine List.all_eq_true.mpr fun c hc' => ?_
        obtain ⟨c', h', rfl⟩ := List.mem_map.mp hc'
        exact (ih c' h').1
      · simp only [clB, clBs, Bool.and_true, Bool.and_eq_true]
        refine ⟨clB_mono (by omega) _ hc.1, cls_iff.mpr fun c hc' => ?_⟩
        obtain ⟨c', h', rfl⟩ := List.mem_map.mp hc'
        exact (ih c' h').2
theorem okDn.up {k i j : Nat} {q : Dn} (h : okDn k i q) (hij : i ≤ j) : okDn k j q := by
  cases q with
  | none => trivial
  | some q => exact ⟨h.1, sp_le h.2.1 hij, clB_mono hij _ h.2.2⟩
theorem look_ok {k j : Nat} {f : Fnd} (h : ∀ q ∈ f, okDn k j q.2) (n : Str) : okDn k j (lookF f n) := by
  unfold lookF
  cases e : f.find? fun q => decide (q.1 = n) with
  | none => trivial
  | some q => exact h q (List.mem_of_find?_eq_some e)
theorem br_ok {ws : List Str} {j : Nat} {f : Fnd} {l : Lnk} (hj : j ≤ 8) (h : ∀ q ∈ f, okDn ws.length j q.2) {w : Int} {s : D} (e : brF ws f l = some (w, s)) : (w = 1 ∨ w = -1) ∧ isSp ws.length j s = true ∧ clB (j + 1) s = true := by
  unfold brF at e
  have hl := look_ok h l.n
  cases q : lookF f l.n with
  | none => rw [q] at e; cases e
  | some q' =>
    obtain ⟨w', s'⟩ := q'
    rw [q] at e hl
    obtain ⟨h1, h2, h3⟩ := hl
    simp only [Option.map_some, Option.some.injEq, Prod.mk.injEq] at e
    obtain ⟨rfl, rfl⟩ := e
    obtain ⟨k1, k2⟩ := times_ok (ps := ratioF ws l.a l.b) (ratio_len ws l.a l.b) ratio_bd 8 j s' hj h2 h3
    refine ⟨?_, k1, k2⟩
    split
    · exact h1
    · omega
theorem zero_ok {ws : List Str} (j : Nat) : isSp ws.length (j + 1) (zeroP ws) = true ∧ clB j (zeroP ws) = true := by
  have hn : nodeOk ws.length (zeroP ws) = some [] := by
    unfold zeroP
    rw [nodeOk_2, if_pos (isSt_self _), if_pos (ints_areN (List.length_map ..))]
  refine ⟨?_, ?_⟩
  · simp only [isSp, hn]
    rfl
  · unfold zeroP
    simp only [clB, clBs, Bool.and_true, Bool.and_eq_true]
    refine ⟨ok_ofString _, ints_cl fun i hi => ?_⟩
    obtain ⟨_, _, rfl⟩ := List.mem_map.mp hi
    exact Nat.zero_le _
theorem so_mem {ws : List Str} {f : Fnd} {s : Sft} {q : Int × D} (h : q ∈ s.ls.filterMap (brF ws f)) : ∃ l ∈ s.ls, brF ws f l = some q := by
  obtain ⟨l, h1, h2⟩ := List.mem_filterMap.mp h
  exact ⟨l, h1, h2⟩
theorem step_ok {ws ns : List Str} {f : Fnd} {s : Sft} (F : okF ws ns f) (hS : okSf ws ns s) (h7 : ns.length ≤ 7) : okDn ws.length (ns.length + 1) (stepF ws f s) := by
  unfold stepF
  by_cases c1 : s.m = "hand"
  · rw [if_pos c1]
    obtain ⟨z1, z2⟩ := zero_ok (ws := ws) ns.length
    exact ⟨.inl rfl, z1, clB_mono (by omega) _ z2⟩
  · rw [if_neg c1]
    have hb : ∀ q ∈ s.ls.filterMap (brF ws f), (q.1 = 1 ∨ q.1 = -1) ∧ isSp ws.length ns.length q.2 = true ∧ clB (ns.length + 1) q.2 = true := fun q hq => by
      obtain ⟨l, _, e⟩ := so_mem hq
      exact br_ok (by omega) F.o e
    by_cases c2 : s.m = "fixed"
    · rw [if_pos c2]
      cases e : s.ls.filterMap (brF ws f) with
      | nil => trivial
      | cons q r =>
        obtain ⟨h1, h2, h3⟩ := hb q (by rw [e]; simp)
        exact ⟨h1, sp_mono _ _ h2, h3⟩
    · rw [if_neg c2]
      dsimp only
      split
      · trivial
      · rename_i hne
        have hns : ns ≠ [] := fun e => c1 (hS.h e).1
        obtain ⟨k1, k2, _⟩ | ⟨k1, k2, k3, k4⟩ := hS.o hns
        · exact absurd k1 c2
        generalize hG : ((s.ls.filterMap (brF ws f)).filter fun q => decide (q.1 = s.w)).map (·.2) = sp at hne
        have hsp : ∀ d ∈ sp, isSp ws.length ns.length d = true ∧ clB (ns.length + 1) d = true := fun d hd => by
          rw [← hG] at hd
          obtain ⟨q, hq, rfl⟩ := List.mem_map.mp hd
          exact (hb q (List.mem_filter.mp hq).1).2
        have hlen : sp.length ≤ 3 := by
          rw [← hG, List.length_map]
          exact Nat.le_trans (List.length_filter_le _ _) (Nat.le_trans (List.length_filterMap_le _ _) k4)
        have h1 : 1 ≤ sp.length := by
          cases sp with
          | nil => exact absurd rfl hne
          | cons _ _ => simp
        have hx : ∀ x : Str, x = "greatest" ∨ x = "least" → isSp ws.length (ns.length + 1) (.tup [.str x, .tup sp]) = true ∧ clB (ns.length + 1) (.tup [.str x, .tup sp]) = true := fun x hx => by
          have hp : isSt "product" (.str x) = false := by rcases hx with rfl | rfl <;> decide
          have hg : (isSt "greatest" (.str x) || isSt "least" (.str x)) = true := by rcases hx with rfl | rfl <;> decide
          have hn : nodeOk ws.length (.tup [.str x, .tup sp]) = some sp := by
            rw [nodeOk_2, if_neg (by rw [hp]; decide), hg, decide_eq_true h1, decide_eq_true (show sp.length ≤ 4 by omega)]
            rfl
          refine ⟨?_, ?_⟩
          · simp only [isSp, hn]
            exact List.all_eq_true.mpr fun d hd => (hsp d hd).1
          · simp only [clB, clBs, Bool.and_true, Bool.and_eq_true]
            exact ⟨by rcases hx with rfl | rfl <;> exact ok_ofString _, cls_iff.mpr fun d hd => (hsp d hd).2⟩
        obtain ⟨q1, q2⟩ := hx (if s.m = "fast" then "greatest" else "least") (by split; exact .inl rfl; exact .inr rfl)
        exact ⟨k2, q1, q2⟩
theorem okF.next {ws ns : List Str} {f : Fnd} {s : Sft} (F : okF ws ns f) (hS : okSf ws ns s) (h7 : ns.length ≤ 7) : okF ws (ns ++ [s.n]) (f ++ [(s.n, stepF ws f s)]) := by
  refine ⟨by rw [List.map_append, F.n]; rfl, ?_, by rw [List.length_append]; simp; omega, fun q hq => ?_⟩
  · rw [List.nodup_append]
    exact ⟨F.d, by simp, fun a ha b hb => by
      rw [List.mem_singleton.mp hb]
      intro e
      exact hS.n (e ▸ ha)⟩
  · rw [List.length_append, List.length_singleton]
    rcases List.mem_append.mp hq with h | h
    · exact (F.o q h).up (by omega)
    · rw [List.mem_singleton.mp h]
      exact step_ok F hS h7
theorem okF.nil {ws : List Str} : okF ws [] [] := ⟨rfl, List.nodup_nil, by simp, fun _ z => (nomatch z)⟩
theorem turn_ok {ws : List Str} : ∀ (sh : List Sft) (ns : List Str) (f : Fnd), okF ws ns f → okT ws ns sh → ns.length + sh.length ≤ 8 → okF ws (ns ++ sh.map (·.n)) (turnF ws sh f)
  | [], ns, f, F, _, _ => by simpa [turnF] using F
  | s :: r, ns, f, F, h, hl => by
    rw [List.length_cons] at hl
    have := turn_ok r (ns ++ [s.n]) (f ++ [(s.n, stepF ws f s)]) (F.next h.1 (by omega)) h.2 (by rw [List.length_append, List.length_singleton]; omega)
    simpa [turnF, List.append_assoc] using this
theorem getK_fnd {f : Fnd} {n : Str} (h : n ∈ f.map (·.1)) : getK (fndK f) (.inr n) = some (dnD (lookF f n)) := by
  unfold getK fndK lookF
  induction f with
  | nil => simp at h
  | cons q r ih =>
    rw [List.map_cons, List.find?_cons, List.find?_cons]
    by_cases e : q.1 = n
    · simp [e]
    · have e' : ¬ ((Sum.inr q.1 : Key) = Sum.inr n) := fun z => e (Sum.inr.inj z)
      simp only [decide_eq_false e, decide_eq_false e']
      exact ih (by
        rw [List.map_cons] at h
        rcases List.mem_cons.mp h with z | z
        · exact absurd z.symm e
        · exact z)
theorem putK_fnd {f : Fnd} {n : Str} {q : Dn} (h : n ∉ f.map (·.1)) : putKD (fndK f) (.inr n) (dnD q) = fndK (f ++ [(n, q)]) := by
  unfold putKD
  have : ((fndK f).any fun q => decide (q.1 = Sum.inr n)) = false := by
    rw [List.any_eq_false]
    intro x hx
    obtain ⟨y, hy, rfl⟩ := List.mem_map.mp hx
    simp only [decide_eq_true_eq]
    intro z
    exact h (List.mem_map.mpr ⟨y, hy, Sum.inr.inj z⟩)
  rw [this, if_neg (by decide)]
  unfold fndK
  rw [List.map_append]
  rfl
theorem fnd_len (f : Fnd) : (fndK f).length = f.length := List.length_map ..
end KT
namespace KT
open PySem L2 VL KL KM KP SS
theorem add_pairs (ps ns : List Int) : ([] : List D) ++ ((ps.zip ns).map fun q => D.tup [.int q.1, .int q.2]).map (fun d => match d with | .tup [.int a, .int b] => .int (a + b) | _ => .non) = (addI ps ns).map .int := by
  unfold addI
  rw [List.nil_append, List.map_map, List.map_map]
  rfl
theorem add_comp {e : List Slot} {i j : Nat} {ps ns : List Int} {st : Ms} {Q : List D → Ms → Prop} (hi : i < e.length) (hj : j < e.length) (hij : i ≠ j) (hl : ps.length ≤ 1000) (hQ : Q ((addI ps ns).map .int) st) :
    compR e (gTp 2 (gCons (gN i) (gCons (gN j) gNil))) mYes (mOp addD (mVar i) (mVar j)) (pairs (ps.map .int) (ns.map .int)) st [] Q := by
  rw [pairs_ints]
  refine compR_map (fun d => match d with | .tup [.int a, .int b] => .int (a + b) | _ => .non) _ [] ?_ (fun d hd q hq => ?_) ?_
  · have := List.length_zip (l₁ := ps) (l₂ := ns)
    simp
    omega
  · obtain ⟨⟨a, b⟩, hab, rfl⟩ := List.mem_map.mp hd
    have e1 : ((e.set i (.dat (.int a))).set j (.dat (.int b)))[i]? = some (.dat (.int a)) := by
      rw [List.getElem?_set_ne (fun h => hij h.symm), List.getElem?_set_self hi]
    have e2 : ((e.set i (.dat (.int a))).set j (.dat (.int b)))[j]? = some (.dat (.int b)) := List.getElem?_set_self (by rw [List.length_set]; exact hj)
    refine ⟨rfl, rfl, ?_⟩
    simp only [mYes, mOp, mVar, e1, e2, if_true]
    exact hq
  · rw [add_pairs]
    exact hQ
theorem v_added (ds : List D) (st : Ms) (Q : D → Ms → Prop) (E : Exn → Ms → Prop) (h : F_added ds st Q E) : m_added ⟨startE sz_added ds, st⟩ (endsOf Q E) := by
  obtain ⟨ps, ns, rfl, hl, _, hq⟩ := h
  show m_added ⟨[.dat (TI ps), .dat (TI ns), .un, .un], st⟩ (endsOf Q E)
  refine ⟨true, true, _, _, rfl, rfl, ?_⟩
  exact add_comp (i := 2) (j := 3) (show 2 < 4 by decide) (show 3 < 4 by decide) (by decide) hl hq
theorem v_times_so (j : Nat) (ds : List D) (st : Ms) (Q : D → Ms → Prop) (E : Exn → Ms → Prop) (h : F_times_so (j + 1) ds st Q E) : m_times_so (F_times_so j) ⟨startE sz_times_so ds, st⟩ (endsOf Q E) := by
  obtain ⟨k, d, ps, rfl, hk, hl, hs, hq⟩ := h
  cases j with
  | zero => cases hs
  | succ j =>
  simp only [isSp] at hs
  cases hn : nodeOk k d with
  | none => rw [hn] at hs; cases hs
  | some cs =>
  rw [hn] at hs
  obtain ⟨hd, ds, rfl, ⟨h1, h2, rfl⟩ | ⟨h1, h2, h3, h4, rfl⟩⟩ := nodeOk_some hn
  · refine ⟨hd, at0', st_kn h1, _, rfl, ?_⟩
    refine ite_yes h1 ?_
    obtain ⟨e1, e2⟩ := nums_ints h2
    refine ⟨.tup ds, at1', rfl, intsL ds, ps, by simp only [KL.TI, ← e1], by omega, by omega, (by first | decide | (refine Nat.le_trans ?_ sizeLine_big; first | (simp only [List.length_append, List.length_cons, List.length_nil, List.length_map]; omega) | (simp; omega)) | (refine Nat.lt_of_lt_of_le ?_ sizeLine_big; first | (simp only [List.length_append, List.length_cons, List.length_nil, List.length_map]; omega) | (simp; omega))), ?_⟩
    simp only [timesD, h1, if_true] at hq
    exact hq
  · refine ⟨hd, at0', gl_kn h2, _, rfl, ?_⟩
    refine ite_no (by rw [h1]; decide) ?_
    refine ⟨hd, at0', .tup cs, at1', ?_⟩
    refine compR_map (timesD ps j) cs [] (by simp; omega) (fun d hd' q hq' => ?_) ?_
    · exact ⟨rfl, k, d, ps, rfl, hk, hl, List.all_eq_true.mp hs d hd', hq'⟩
    · simp only [timesD, h1, Bool.false_eq_true, if_false] at hq
      exact ⟨(by first | decide | (refine Nat.le_trans ?_ sizeLine_big; first | (simp only [List.length_append, List.length_cons, List.length_nil, List.length_map]; omega) | (simp; omega)) | (refine Nat.lt_of_lt_of_le ?_ sizeLine_big; first | (simp only [List.length_append, List.length_cons, List.length_nil, List.length_map]; omega) | (simp; omega))), hq⟩
theorem v_law_by (j : Nat) (ds : List D) (st : Ms) (Q : D → Ms → Prop) (E : Exn → Ms → Prop) (h : F_law_by (j + 1) ds st Q E) : m_law_by (F_law_by j) ⟨startE sz_law_by ds, st⟩ (endsOf Q E) := by
  obtain ⟨k, d, ps, rfl, hk, hl, hs, hq⟩ := h
  cases j with
  | zero => cases hs
  | succ j =>
  simp only [isSp] at hs
  cases hn : nodeOk k d with
  | none => rw [hn] at hs; cases hs
  | some cs =>
  rw [hn] at hs
  obtain ⟨hd, ds, rfl, ⟨h1, h2, rfl⟩ | ⟨h1, h2, h3, h4, rfl⟩⟩ := nodeOk_some hn
  · refine ⟨hd, at0', st_kn h1, _, rfl, ?_⟩
    refine ite_yes h1 ?_
    obtain ⟨e1, e2⟩ := nums_ints h2
    refine ⟨.tup ds, at1', ?_⟩
    rw [e1]
    refine ⟨true, true, _, _, rfl, rfl, ?_⟩
    refine add_comp (i := 2) (j := 3) (show 2 < 4 by decide) (show 3 < 4 by decide) (by decide) (by omega) ⟨(by first | decide | (refine Nat.le_trans ?_ sizeLine_big; first | (simp only [List.length_append, List.length_cons, List.length_nil, List.length_map]; omega) | (simp; omega)) | (refine Nat.lt_of_lt_of_le ?_ sizeLine_big; first | (simp only [List.length_append, List.length_cons, List.length_nil, List.length_map]; omega) | (simp; omega))), ?_⟩
    simp only [timesD, h1, if_true] at hq
    exact hq
  · refine ⟨hd, at0', gl_kn h2, _, rfl, ?_⟩
    refine ite_no (by rw [h1]; decide) ?_
    refine ⟨hd, at0', .tup cs, at1', ?_⟩
    refine compR_map (timesD ps j) cs [] (by simp; omega) (fun d hd' q hq' => ?_) ?_
    · exact ⟨rfl, k, d, ps, rfl, hk, hl, List.all_eq_true.mp hs d hd', hq'⟩
    · simp only [timesD, h1, Bool.false_eq_true, if_false] at hq
      exact ⟨(by first | decide | (refine Nat.le_trans ?_ sizeLine_big; first | (simp only [List.length_append, List.length_cons, List.length_nil, List.length_map]; omega) | (simp; omega)) | (refine Nat.lt_of_lt_of_le ?_ sizeLine_big; first | (simp only [List.length_append, List.length_cons, List.length_nil, List.length_map]; omega) | (simp; omega))), hq⟩
theorem beq_dec (x y : Str) : (x == y) = decide (x = y) := by
  by_cases h : x = y
  · simp [h]
  · simp [h]
theorem v_ratio (ds : List D) (st : Ms) (Q : D → Ms → Prop) (E : Exn → Ms → Prop) (h : F_ratio ds st Q E) : m_ratio ⟨startE sz_ratio ds, st⟩ (endsOf Q E) := by
  obtain ⟨ws, a, b, rfl, hl, hq⟩ := h
  show m_ratio ⟨[.dat (TS ws), .dat (.str a), .dat (.str b), .un], st⟩ (endsOf Q E)
  show compR _ _ _ _ (ws.map .str) st [] _
  refine compR_mapT D.str (fun z => .int ((if z = a then 1 else 0) - (if z = b then 1 else 0))) ws [] (by simp; omega) (fun z hz q hq2 => ?_) ?_
  · show q (.int ((if (z == a) = true then 1 else 0) - if (z == b) = true then 1 else 0)) st
    rw [beq_dec, beq_dec]
    simpa using hq2
  · rw [List.nil_append]
    have e : (ws.map fun z => D.int ((if z = a then 1 else 0) - (if z = b then 1 else 0))) = (ratioF ws a b).map .int := by
      unfold ratioF
      rw [List.map_map]
      rfl
    rw [e]
    exact hq
theorem v_brought (ds : List D) (st : Ms) (Q : D → Ms → Prop) (E : Exn → Ms → Prop) (h : F_brought ds st Q E) : m_brought ⟨startE sz_brought ds, st⟩ (endsOf Q E) := by
  obtain ⟨ws, ns, f, i, l, rfl, w1, w5, hi, F, L, hq⟩ := h
  show m_brought ⟨[.dat (TS ws), .dat (.loc i), .dat (lkD l), .un, .un, .un, .un, .un, .un], st⟩ (endsOf Q E)
  have hm : l.n ∈ f.map (·.1) := by rw [F.n]; exact L.n
  have hg := getK_fnd hm
  refine ⟨rfl, rfl, _, _, _, hi, rfl, hg, ?_⟩
  refine ⟨_, rfl, ?_⟩
  have hl := look_ok F.o l.n
  unfold brF at hq
  cases q : lookF f l.n with
  | none =>
    rw [q] at hq
    exact ite_yes (by rfl) hq
  | some p =>
    obtain ⟨w, s⟩ := p
    rw [q] at hq hl hg
    refine ite_no (fun h => by cases h) ?_
    refine ⟨_, _, _, hi, rfl, hg, ?_⟩
    refine ⟨rfl, rfl, rfl, _, rfl, ?_⟩
    have hb : isSt "band" (.str l.k) = decide (l.k = "band") := by simp [isSt, beq_dec]
    have fin : ∀ w' : Int, w' = (if l.k = "band" then w else -w) → (mCons (mCall 2 (F_times_so 9) (mCons (mVar 8) (mCons (mCall 3 F_ratio (mCons (mVar 0) (mCons (mVar 4) (mCons (mVar 5) mNil)))) mNil))) mNil) ⟨[.dat (TS ws), .dat (.loc i), .dat (lkD l), .dat (.str l.n), .dat (.str l.a), .dat (.str l.b), .dat (.str l.k), .dat (.int w), .dat s], st⟩ (fun ds s'' => (D.int w' :: ds).length ≤ sizeLine ∧ (endsOf Q E).rt (.tup (D.int w' :: ds)) s''.n) (endsOf Q E).ex := by
      intro w' e
      refine ⟨rfl, ws, l.a, l.b, rfl, by omega, rfl, ws.length, s, ratioF ws l.a l.b, rfl, by omega, ratio_len ws _ _, sp_le hl.2.1 F.l, (by first | decide | (refine Nat.le_trans ?_ sizeLine_big; first | (simp only [List.length_append, List.length_cons, List.length_nil, List.length_map]; omega) | (simp; omega)) | (refine Nat.lt_of_lt_of_le ?_ sizeLine_big; first | (simp only [List.length_append, List.length_cons, List.length_nil, List.length_map]; omega) | (simp; omega))), ?_⟩
      rw [e]
      exact hq
    show (if isSt "band" (.str l.k) = true then _ else _)
    rw [hb]
    by_cases e : l.k = "band"
    · refine ite_yes (by simp [e]) ?_
      exact fin w (by rw [if_pos e])
    · refine ite_no (by simp [e]) ?_
      exact fin (-w) (by rw [if_neg e])
abbrev tr1_0 : MS := (mSet 7 (mComp [9] (mIt itL (mComp [12] (mIt itT (mVar 6)) (gN 12) mYes (mCall 3 F_brought (mCons (mVar 0) (mCons (mVar 2) (mCons (mVar 12) mNil)))))) (gN 9) (mTst (mOp (isD true) (mVar 9) (mC .non))) (mVar 9)))
abbrev tr1_1 : MS := (mSet 8 (mB tupleD (mCons (mComp [10, 11] (mIt itL (mVar 7)) (gTp 2 (gCons (gN 10) (gCons (gN 11) gNil))) (mTst (mOp eqP (mVar 10) (mVar 5))) (mVar 11)) mNil)))
abbrev tr1_2 : MS := (mIfS (mTst (mOp eqTP (mVar 4) (mC (.str "hand")))) (mDPut (mVar 2) (mVar 3) (mTup (mCons (mC (.int 1)) (mCons (mTup (mCons (mC (.str "product")) (mCons (mOp mulD (mTup (mCons (mC (.int 0)) mNil)) (mB lenD (mCons (mVar 0) mNil))) mNil))) mNil)))) (mIfS (mTst (mOp eqTP (mVar 4) (mC (.str "fixed")))) (mDPut (mVar 2) (mVar 3) (mIf (mTst (mOp ne0P (mVar 7) (mLst mNil))) (mOp idxD (mVar 7) (mC (.int 0))) (mC .non))) (mIfS (mTst (mOp eq0P (mVar 8) (mTup mNil))) (mDPut (mVar 2) (mVar 3) (mC .non)) (mDPut (mVar 2) (mVar 3) (mTup (mCons (mVar 5) (mCons (mTup (mCons (mIf (mTst (mOp eqTP (mVar 4) (mC (.str "fast")))) (mC (.str "greatest")) (mC (.str "least"))) (mCons (mVar 8) mNil))) mNil)))))))
abbrev tr1_r2 : MS := tr1_2
abbrev tr1_r1 : MS := (mSeq tr1_1 tr1_r2)
abbrev tr1_r0 : MS := (mSeq tr1_0 tr1_r1)
abbrev tr1 : MS := (mFor (mIt itT (mVar 1)) (gTp 4 (gCons (gN 3) (gCons (gN 4) (gCons (gN 5) (gCons (gN 6) gNil))))) tr1_r0)
abbrev tr2 : MS := (mRet (mFz (mVar 2)))
abbrev tr_r2 : MS := tr2
/-- the loop over the shafts -/
theorem turn_loop {ws : List Str} {st : Ms} {i : Nat} {K : VE} {s1 : Slot} (w1 : 1 ≤ ws.length) (w5 : ws.length ≤ 5) (hi : i = st.h.length) : ∀ (sh : List Sft) (ns : List Str) (f : Fnd) (s3 s4 s5 s6 s7 s8 s9 s10 s11 s12 : Slot), okF ws ns f → okT ws ns sh → ns.length + sh.length ≤ 8 →
    (∀ t3 t4 t5 t6 t7 t8 t9 t10 t11 t12 : Slot, K.nx ⟨[.dat (TS ws), s1, .dat (.loc i), t3, t4, t5, t6, t7, t8, t9, t10, t11, t12], ⟨st.n, st.h ++ [.k (fndK (turnF ws sh f))]⟩⟩) →
    forR (gTp 4 (gCons (gN 3) (gCons (gN 4) (gCons (gN 5) (gCons (gN 6) gNil))))) tr1_r0 (sh.map sfD) ⟨[.dat (TS ws), s1, .dat (.loc i), s3, s4, s5, s6, s7, s8, s9, s10, s11, s12], ⟨st.n, st.h ++ [.k (fndK f)]⟩⟩ K
  | [], ns, f, s3, s4, s5, s6, s7, s8, s9, s10, s11, s12, F, _, _, hK => hK _ _ _ _ _ _ _ _ _ _
  | s :: r, ns, f, s3, s4, s5, s6, s7, s8, s9, s10, s11, s12, F, hT, hl, hK => by
    rw [List.length_cons] at hl
    obtain ⟨hS, hR⟩ := hT
    have hat : (st.h ++ [Cell.k (fndK f)])[i]? = some (.k (fndK f)) := by rw [hi]; simp
    have hset : ∀ c, (st.h ++ [Cell.k (fndK f)]).set i c = st.h ++ [c] := fun c => by rw [hi]; simp
    have h3 : s.ls.length ≤ 3 := by
      by_cases q : ns = []
      · rw [(hS.h q).2.2]; decide
      · rcases hS.o q with h | h
        · omega
        · exact h.2.2.2
    have hlf : f.length = ns.length := by rw [← F.n, List.length_map]
    -- behind the store
    have next : ∀ q : Dn, q = stepF ws f s → ∀ t7 t8 t9 t10 t11 t12 : Slot, mDPut (mVar 2) (mVar 3) (mC (dnD q)) ⟨[.dat (TS ws), s1, .dat (.loc i), .dat (.str s.n), .dat (.str s.m), .dat (.int s.w), .dat (.tup (s.ls.map lkD)), t7, t8, t9, t10, t11, t12], ⟨st.n, st.h ++ [.k (fndK f)]⟩⟩
        { K with nx := fun s2 => forR (gTp 4 (gCons (gN 3) (gCons (gN 4) (gCons (gN 5) (gCons (gN 6) gNil))))) tr1_r0 (r.map sfD) s2 K, ct := fun s2 => forR (gTp 4 (gCons (gN 3) (gCons (gN 4) (gCons (gN 5) (gCons (gN 6) gNil))))) tr1_r0 (r.map sfD) s2 K, bk := K.nx } := by
      intro q e t7 t8 t9 t10 t11 t12
      refine ⟨fndK f, .inr s.n, hat, rfl, Nat.lt_of_le_of_lt (show (fndK f).length ≤ 8 by rw [fnd_len]; omega) (by decide), ?_⟩
      rw [putK_fnd (by rw [F.n]; exact hS.n), hset, e]
      exact turn_loop w1 w5 hi r (ns ++ [s.n]) (f ++ [(s.n, stepF ws f s)]) _ _ _ _ _ _ _ _ _ _ (F.next hS (by omega)) hR (by rw [List.length_append, List.length_singleton]; omega) hK
    refine ⟨rfl, rfl, ?_⟩
    show tr1_r0 ⟨[.dat (TS ws), s1, .dat (.loc i), .dat (.str s.n), .dat (.str s.m), .dat (.int s.w), .dat (.tup (s.ls.map lkD)), s7, s8, s9, s10, s11, s12], ⟨st.n, st.h ++ [.k (fndK f)]⟩⟩ _
    show compR _ _ _ _ (s.ls.map lkD) _ [] _
    refine compR_mapT lkD (fun l => dnD (brF ws f l)) s.ls [] (by simp; omega) (fun l hl' q hq => ⟨rfl, ws, ns, f, i, l, rfl, w1, w5, hat, F, hS.ls l hl', hq⟩) ?_
    rw [List.nil_append]
    have em : (s.ls.map fun l => dnD (brF ws f l)) = (s.ls.map (brF ws f)).map dnD := by rw [List.map_map]; rfl
    rw [em]
    show compR _ _ _ _ ((s.ls.map (brF ws f)).map dnD) _ [] _
    refine compR_filterT dnD (fun q => q.isSome) (s.ls.map (brF ws f)) [] (by simp; omega) (fun q hq a b h1 h0 => ?_) ?_
    · refine ⟨_, rfl, ?_⟩
      cases q with
      | none => exact ite_no (by decide) (h0 rfl)
      | some q => exact ite_yes rfl (h1 rfl)
    rw [List.nil_append]
    have es : ((s.ls.map (brF ws f)).filter fun q => q.isSome).map dnD = (s.ls.filterMap (brF ws f)).map fun q => D.tup [.int q.1, q.2] := by
      generalize s.ls = ls
      induction ls with
      | nil => rfl
      | cons l r ih =>
        rw [List.map_cons, List.filter_cons, List.filterMap_cons]
        cases h : brF ws f l with
        | none => exact ih
        | some q =>
          show List.map dnD (some q :: _) = List.map _ (q :: _)
          rw [List.map_cons, List.map_cons, ih]
          rfl
    rw [es]
    have hso : (s.ls.filterMap (brF ws f)).length ≤ 3 := Nat.le_trans (List.length_filterMap_le _ _) h3
    have hstep : stepF ws f s = (if s.m = "hand" then some (1, zeroP ws) else if s.m = "fixed" then (s.ls.filterMap (brF ws f)).head? else if ((s.ls.filterMap (brF ws f)).filter fun q => decide (q.1 = s.w)).map (·.2) = [] then none else some (s.w, .tup [.str (if s.m = "fast" then "greatest" else "least"), .tup (((s.ls.filterMap (brF ws f)).filter fun q => decide (q.1 = s.w)).map (·.2))])) := rfl
    generalize s.ls.filterMap (brF ws f) = so at hso hstep
    show compR _ _ _ _ (so.map fun q => D.tup [.int q.1, q.2]) _ [] _
    refine compR_mf (fun q : Int × D => D.tup [.int q.1, q.2]) (fun q => q.2) (fun q => decide (q.1 = s.w)) so [] (by simp; omega) (fun q hq a b h1 h0 => ?_) ?_
    · refine ⟨rfl, rfl, _, rfl, ?_⟩
      show (if (q.1 == s.w) = true then _ else _)
      by_cases e : q.1 = s.w
      · exact ite_yes (by simp [e]) (h1 (by simp [e]))
      · exact ite_no (by simp [e]) (h0 (by simp [e]))
    rw [List.nil_append]
    generalize (so.filter fun q => decide (q.1 = s.w)).map (·.2) = sp at hstep
    have hh : ∀ z : Str, isSt z (.str s.m) = decide (s.m = z) := fun z => by simp [isSt, beq_dec]
    refine ⟨rfl, _, rfl, ?_⟩
    rw [hh]
    by_cases c1 : s.m = "hand"
    · rw [if_pos c1] at hstep
      refine ite_yes (by simp [c1]) ?_
      have hlw : (ws.map D.str).length = ws.length := List.length_map ..
      refine ⟨(by first | decide | (refine Nat.le_trans ?_ sizeLine_big; first | (simp only [List.length_append, List.length_cons, List.length_nil, List.length_map]; omega) | (simp; omega)) | (refine Nat.lt_of_lt_of_le ?_ sizeLine_big; first | (simp only [List.length_append, List.length_cons, List.length_nil, List.length_map]; omega) | (simp; omega))), ⟨by rw [hlw]; omega, by rw [hlw]; omega, (by decide : 1 ≤ 1000), List.cons_ne_nil _ _⟩, (by first | decide | (refine Nat.le_trans ?_ sizeLine_big; first | (simp only [List.length_append, List.length_cons, List.length_nil, List.length_map]; omega) | (simp; omega)) | (refine Nat.lt_of_lt_of_le ?_ sizeLine_big; first | (simp only [List.length_append, List.length_cons, List.length_nil, List.length_map]; omega) | (simp; omega))), (by first | decide | (refine Nat.le_trans ?_ sizeLine_big; first | (simp only [List.length_append, List.length_cons, List.length_nil, List.length_map]; omega) | (simp; omega)) | (refine Nat.lt_of_lt_of_le ?_ sizeLine_big; first | (simp only [List.length_append, List.length_cons, List.length_nil, List.length_map]; omega) | (simp; omega))), ?_⟩
      have ez : (D.tup [.str "product", .tup (List.replicate (((ws.map D.str).length : Nat) : Int).toNat [D.int 0]).flatten]) = zeroP ws := by
        unfold zeroP
        rw [hlw, Int.toNat_natCast]
        congr 1
        congr 1
        congr 1
        show D.tup _ = D.tup _
        congr 1
        apply List.ext_getElem
        · simp
        · intro j g1 g2
          simp
      have := next (some (1, zeroP ws)) hstep.symm (.dat (.lst (so.map fun q => D.tup [.int q.1, q.2]))) (.dat (.tup sp)) s9 s10 s11 s12
      rw [← ez] at this
      exact this
    · refine ite_no (by simp [c1]) ?_
      rw [if_neg c1] at hstep
      refine ⟨rfl, _, rfl, ?_⟩
      rw [hh]
      by_cases c2 : s.m = "fixed"
      · rw [if_pos c2] at hstep
        refine ite_yes (by simp [c2]) ?_
        cases so with
        | nil => 
          refine ⟨(by first | decide | (refine Nat.le_trans ?_ sizeLine_big; first | (simp only [List.length_append, List.length_cons, List.length_nil, List.length_map]; omega) | (simp; omega)) | (refine Nat.lt_of_lt_of_le ?_ sizeLine_big; first | (simp only [List.length_append, List.length_cons, List.length_nil, List.length_map]; omega) | (simp; omega))), _, rfl, ?_⟩
          refine ite_no (by decide) ?_
          exact next none hstep.symm _ _ _ _ _ _
        | cons q r =>
          refine ⟨(by first | decide | (refine Nat.le_trans ?_ sizeLine_big; first | (simp only [List.length_append, List.length_cons, List.length_nil, List.length_map]; omega) | (simp; omega)) | (refine Nat.lt_of_lt_of_le ?_ sizeLine_big; first | (simp only [List.length_append, List.length_cons, List.length_nil, List.length_map]; omega) | (simp; omega))), _, rfl, ?_⟩
          refine ite_yes rfl ?_
          refine ⟨_, at0', ?_⟩
          exact next (some q) hstep.symm _ _ _ _ _ _
      · rw [if_neg c2] at hstep
        refine ite_no (by simp [c2]) ?_
        refine ⟨(by first | decide | (refine Nat.le_trans ?_ sizeLine_big; first | (simp only [List.length_append, List.length_cons, List.length_nil, List.length_map]; omega) | (simp; omega)) | (refine Nat.lt_of_lt_of_le ?_ sizeLine_big; first | (simp only [List.length_append, List.length_cons, List.length_nil, List.length_map]; omega) | (simp; omega))), _, rfl, ?_⟩
        cases sp with
        | nil =>
          refine ite_yes rfl ?_
          exact next none hstep.symm _ _ _ _ _ _
        | cons d r =>
          refine ite_no (by simp) ?_
          refine ⟨rfl, _, rfl, ?_⟩
          rw [hh]
          rw [if_neg (List.cons_ne_nil _ _)] at hstep
          by_cases c3 : s.m = "fast"
          · rw [if_pos c3] at hstep
            refine ite_yes (by simp [c3]) ?_
            exact ⟨(by first | decide | (refine Nat.le_trans ?_ sizeLine_big; first | (simp only [List.length_append, List.length_cons, List.length_nil, List.length_map]; omega) | (simp; omega)) | (refine Nat.lt_of_lt_of_le ?_ sizeLine_big; first | (simp only [List.length_append, List.length_cons, List.length_nil, List.length_map]; omega) | (simp; omega))), (by first | decide | (refine Nat.le_trans ?_ sizeLine_big; first | (simp only [List.length_append, List.length_cons, List.length_nil, List.length_map]; omega) | (simp; omega)) | (refine Nat.lt_of_lt_of_le ?_ sizeLine_big; first | (simp only [List.length_append, List.length_cons, List.length_nil, List.length_map]; omega) | (simp; omega))), next (some _) hstep.symm _ _ _ _ _ _⟩
          · rw [if_neg c3] at hstep
            refine ite_no (by simp [c3]) ?_
            exact ⟨(by first | decide | (refine Nat.le_trans ?_ sizeLine_big; first | (simp only [List.length_append, List.length_cons, List.length_nil, List.length_map]; omega) | (simp; omega)) | (refine Nat.lt_of_lt_of_le ?_ sizeLine_big; first | (simp only [List.length_append, List.length_cons, List.length_nil, List.length_map]; omega) | (simp; omega))), (by first | decide | (refine Nat.le_trans ?_ sizeLine_big; first | (simp only [List.length_append, List.length_cons, List.length_nil, List.length_map]; omega) | (simp; omega)) | (refine Nat.lt_of_lt_of_le ?_ sizeLine_big; first | (simp only [List.length_append, List.length_cons, List.length_nil, List.length_map]; omega) | (simp; omega))), next (some _) hstep.symm _ _ _ _ _ _⟩
theorem v_turning (ds : List D) (st : Ms) (Q : D → Ms → Prop) (E : Exn → Ms → Prop) (h : F_turning ds st Q E) : m_turning ⟨startE sz_turning ds, st⟩ (endsOf Q E) := by
  obtain ⟨ws, sh, rfl, w1, w5, h8, hT, hq⟩ := h
  show mSeq tr1 tr_r2 ⟨[.dat (TS ws), .dat (.tup (sh.map sfD)), .dat (.loc st.h.length), .un, .un, .un, .un, .un, .un, .un, .un, .un, .un], ⟨st.n, st.h ++ [.k []]⟩⟩ (endsOf Q E)
  refine turn_loop (i := st.h.length) w1 w5 rfl sh [] [] _ _ _ _ _ _ _ _ _ _ okF.nil hT (by simpa using h8) fun t3 t4 t5 t6 t7 t8 t9 t10 t11 t12 => ?_
  show tr2 ⟨[.dat (TS ws), .dat (.tup (sh.map sfD)), .dat (.loc st.h.length), t3, t4, t5, t6, t7, t8, t9, t10, t11, t12], ⟨st.n, st.h ++ [.k (fndK (turnF ws sh []))]⟩⟩ (endsOf Q E)
  refine ⟨fndK (turnF ws sh []), by simp, ?_⟩
  have e : (st.h ++ [Cell.k (fndK (turnF ws sh []))]).set st.h.length .x = st.h ++ [.x] := by simp
  show Q _ ⟨st.n, (st.h ++ [Cell.k (fndK (turnF ws sh []))]).set st.h.length .x⟩
  rw [e]
  exact hq
end KT
namespace KT
open PySem L2 VL KL KM KP SS
theorem names_map (sh : List Sft) : (sh.map sfD).map (fun x => D.str (nameOf x)) = (namesF sh).map .str := by
  unfold namesF
  rw [List.map_map, List.map_map]
  rfl
theorem rows_sf {sh : List Sft} : ∀ x ∈ sh.map sfD, rowS x := fun x hx => by
  obtain ⟨s, _, rfl⟩ := List.mem_map.mp hx
  exact ⟨_, _, _, _, rfl⟩
theorem memD_in {xs : List Str} {x : Str} (h : memD xs (.str x) = true) : x ∈ xs := by
  obtain ⟨z, hz, e⟩ := List.any_eq_true.mp h
  have := isSt_eq e
  cases this
  exact hz
theorem turn_names {ws : List Str} : ∀ (sh : List Sft) (f : Fnd), (turnF ws sh f).map (·.1) = f.map (·.1) ++ namesF sh
  | [], f => by simp [turnF, namesF]
  | s :: r, f => by
    rw [turnF, turn_names r]
    simp [namesF]
theorem v_Train_does (ds : List D) (st : Ms) (Q : D → Ms → Prop) (E : Exn → Ms → Prop) (h : F_Train_does ds st Q E) : m_Train_does ⟨startE sz_Train_does ds, st⟩ (endsOf Q E) := by
  obtain ⟨ws, sh, d, rfl, T, ht, he, hq⟩ := h
  show m_Train_does ⟨[.dat (trS ws sh), .dat d], st⟩ (endsOf Q E)
  obtain ⟨k1, k5, _, _⟩ := okS_of T.s
  have n8 := T.n8
  by_cases hs : isStr d = true
  · cases d <;> first | (cases hs; done) | skip
    rename_i x
    refine ⟨rfl, ⟨rfl, rfl⟩, rfl, _, _, rfl, by rw [List.length_map]; omega, rows_sf, ?_⟩
    rw [names_map]
    refine ⟨⟨rfl, all_flat _⟩, ?_⟩
    rw [any_eqF]
    refine ⟨_, rfl, ?_⟩
    cases hm : memD (namesF sh) (.str x) with
    | true =>
      have hx := memD_in hm
      have h2 := getK_fnd (f := turnF ws sh []) (n := x) (by rw [turn_names]; simpa using hx)
      refine ⟨rfl, _, rfl, rfl, _, rfl, rfl, ws, sh, rfl, k1, k5, n8, T.t, ?_⟩
      exact ⟨.inr x, _, rfl, h2, hq x rfl hx⟩
    | false => exact he hm
  · have hs' : isStr d = false := by simpa using hs
    refine ⟨ht, ?_⟩
    rw [hs']
    exact he (memD_ns hs')
theorem v_Train_way (ds : List D) (st : Ms) (Q : D → Ms → Prop) (E : Exn → Ms → Prop) (h : F_Train_way ds st Q E) : m_Train_way ⟨startE sz_Train_way ds, st⟩ (endsOf Q E) := by
  obtain ⟨ws, sh, d, rfl, T, ht, he, hq⟩ := h
  show m_Train_way ⟨[.dat (trS ws sh), .dat d, .un], st⟩ (endsOf Q E)
  refine ⟨⟨rfl, rfl⟩, rfl, ws, sh, d, rfl, T, ht, he, fun x ex hm => ?_⟩
  have hq := hq x ex hm
  cases q : lookF (turnF ws sh []) x with
  | none =>
    rw [q] at hq
    exact ⟨_, rfl, ite_no (by decide) hq⟩
  | some p =>
    obtain ⟨w, s⟩ := p
    rw [q] at hq
    exact ⟨_, rfl, ite_yes rfl ⟨_, at0', hq⟩⟩
theorem v_Train_speed (ds : List D) (st : Ms) (Q : D → Ms → Prop) (E : Exn → Ms → Prop) (h : F_Train_speed ds st Q E) : m_Train_speed ⟨startE sz_Train_speed ds, st⟩ (endsOf Q E) := by
  obtain ⟨ws, sh, d, rfl, T, ht, he, hq⟩ := h
  show m_Train_speed ⟨[.dat (trS ws sh), .dat d, .un], st⟩ (endsOf Q E)
  refine ⟨⟨rfl, rfl⟩, rfl, ws, sh, d, rfl, T, ht, he, fun x ex hm => ?_⟩
  have hq := hq x ex hm
  cases q : lookF (turnF ws sh []) x with
  | none =>
    rw [q] at hq
    exact ⟨_, rfl, ite_no (by decide) hq⟩
  | some p =>
    obtain ⟨w, s⟩ := p
    rw [q] at hq
    exact ⟨_, rfl, ite_yes rfl ⟨_, at1', hq⟩⟩
end KT
namespace KT
open PySem L2 VL KL KM KP SS
abbrev lt1_2_0 : MS := (mIfS (mTst (mOp (isD true) (mDGet (mVar 2) (mVar 8)) (mC .non))) (mSeq (mSet 13 (mB tupleD (mCons (mComp [15] (mIt itT (mVar 0)) (gN 15) mYes (mOp (dI (fun _ _ => True) fun i j => .int (i - j)) (mB intD (mCons (mOp eqP (mVar 15) (mVar 9)) mNil)) (mB intD (mCons (mOp eqP (mVar 15) (mVar 10)) mNil)))) mNil))) (mApp 7 (mTup (mCons (mOp mulD (mOp idxD (mDGet (mVar 2) (mVar 8)) (mC (.int 0))) (mIf (mTst (mOp eqTP (mVar 11) (mC (.str "band")))) (mC (.int 1)) (mUn negD (mC (.int 1))))) (mCons (mCall 2 (F_law_by 9) (mCons (mOp idxD (mDGet (mVar 2) (mVar 8)) (mC (.int 1))) (mCons (mVar 13) mNil))) mNil))))) mNext)
abbrev lt1_0 : MS := (mIfS (mTst (mOp eqTP (mVar 4) (mC (.str "hand")))) (mSeq (mDPut (mVar 2) (mVar 3) (mTup (mCons (mC (.int 1)) (mCons (mTup (mCons (mC (.str "product")) (mCons (mOp mulD (mTup (mCons (mC (.int 0)) mNil)) (mB lenD (mCons (mVar 0) mNil))) mNil))) mNil)))) mCont) mNext)
abbrev lt1_1 : MS := (mOwn 7 mNil)
abbrev lt1_2 : MS := (mFor (mIt itT (mVar 6)) (gTp 4 (gCons (gN 8) (gCons (gN 9) (gCons (gN 10) (gCons (gN 11) gNil))))) lt1_2_0)
abbrev lt1_3 : MS := (mSet 12 (mComp [14] (mIt itL (mVar 7)) (gN 14) (mOr (mTst (mOp eqTP (mVar 4) (mC (.str "fixed")))) (mTst (mOp eqP (mOp idxD (mVar 14) (mC (.int 0))) (mVar 5)))) (mVar 14)))
abbrev lt1_4 : MS := (mDPut (mVar 2) (mVar 3) (mIf (mTst (mOp eq0P (mVar 12) (mLst mNil))) (mC .non) (mOp idxD (mVar 12) (mC (.int 0)))))
abbrev lt1_5 : MS := (mIfS (mAnd (mTst (mOp ne0P (mVar 12) (mLst mNil))) (mTst (mOp neP (mVar 4) (mC (.str "fixed"))))) (mDPut (mVar 2) (mVar 3) (mTup (mCons (mVar 5) (mCons (mTup (mCons (mIf (mTst (mOp eqTP (mVar 4) (mC (.str "fast")))) (mC (.str "greatest")) (mC (.str "least"))) (mCons (mB tupleD (mCons (mComp [14] (mIt itL (mVar 12)) (gN 14) mYes (mOp idxD (mVar 14) (mC (.int 1)))) mNil)) mNil))) mNil)))) mNext)
abbrev lt1 : MS := (mSeq lt1_0 (mSeq lt1_1 (mSeq lt1_2 (mSeq lt1_3 (mSeq lt1_4 lt1_5)))))
abbrev lt2 : MS := (mRet (mFz (mVar 2)))
def qD (q : Int × D) : D := .tup [.int q.1, q.2]
theorem lt_links {ws ns : List Str} {f : Fnd} {i : Nat} {st : Ms} {K : VE} {s1 s3 s4 s5 s6 s12 s14 s15 : Slot} (w1 : 1 ≤ ws.length) (w5 : ws.length ≤ 5) (F : okF ws ns f) (hi : st.h[i]? = some (.k (fndK f))) : ∀ (ls : List Lnk) (so : List (Int × D)) (s8 s9 s10 s11 s13 : Slot), (∀ l ∈ ls, okLk ws ns l) → so.length + ls.length ≤ 3 →
    (∀ t8 t9 t10 t11 t13 : Slot, K.nx ⟨[.dat (TS ws), s1, .dat (.loc i), s3, s4, s5, s6, .own (.l ((so ++ ls.filterMap (brF ws f)).map qD)), t8, t9, t10, t11, s12, t13, s14, s15], st⟩) →
    forR (gTp 4 (gCons (gN 8) (gCons (gN 9) (gCons (gN 10) (gCons (gN 11) gNil))))) lt1_2_0 (ls.map lkD) ⟨[.dat (TS ws), s1, .dat (.loc i), s3, s4, s5, s6, .own (.l (so.map qD)), s8, s9, s10, s11, s12, s13, s14, s15], st⟩ K
  | [], so, s8, s9, s10, s11, s13, _, _, hK => by
    have := hK s8 s9 s10 s11 s13
    rw [List.filterMap_nil, List.append_nil] at this
    exact this
  | l :: r, so, s8, s9, s10, s11, s13, hL, hl, hK => by
    rw [List.length_cons] at hl
    have L := hL l (by simp)
    have hg := getK_fnd (f := f) (n := l.n) (by rw [F.n]; exact L.n)
    have hd := look_ok F.o l.n
    refine ⟨rfl, rfl, ?_⟩
    refine ⟨_, _, _, hi, rfl, hg, ?_⟩
    refine ⟨_, rfl, ?_⟩
    cases q : lookF f l.n with
    | none =>
      refine ite_no (by decide) ?_
      have e : brF ws f l = none := by unfold brF; rw [q]; rfl
      refine lt_links w1 w5 F hi r so _ _ _ _ _ (fun x hx => hL x (by simp [hx])) (by omega) fun t8 t9 t10 t11 t13 => ?_
      have := hK t8 t9 t10 t11 t13
      rw [List.filterMap_cons, e] at this
      exact this
    | some p =>
      obtain ⟨w, s⟩ := p
      rw [q] at hg hd
      have e : brF ws f l = some (if l.k = "band" then w else -w, timesD (ratioF ws l.a l.b) 8 s) := by unfold brF; rw [q]; rfl
      refine ite_yes rfl ?_
      show compR _ _ _ _ (ws.map .str) _ [] _
      refine compR_mapT D.str (fun z => .int ((if z = l.a then 1 else 0) - (if z = l.b then 1 else 0))) ws [] (by simp; omega) (fun z hz q2 hq2 => ?_) ?_
      · show _ ∧ q2 (.int ((if (z == l.a) = true then 1 else 0) - if (z == l.b) = true then 1 else 0)) _
        rw [beq_dec, beq_dec]
        exact ⟨trivial, by simpa using hq2⟩
      rw [List.nil_append]
      have er : (ws.map fun z => D.int ((if z = l.a then 1 else 0) - (if z = l.b then 1 else 0))) = (ratioF ws l.a l.b).map .int := by
        unfold ratioF
        rw [List.map_map]
        rfl
      rw [er]
      refine ⟨_, _, _, hi, rfl, hg, _, at0', ?_⟩
      refine ⟨rfl, _, rfl, ?_⟩
      have hb : isSt "band" (.str l.k) = decide (l.k = "band") := by simp [isSt, beq_dec]
      have fin : ∀ z : Int, (z = 1 ∨ z = -1) → w * z = (if l.k = "band" then w else -w) → IntMulOk w z ∧ ((mCons (mCall 2 (F_law_by 9) (mCons (mOp idxD (mDGet (mVar 2) (mVar 8)) (mC (.int 1))) (mCons (mVar 13) mNil))) mNil) ⟨[.dat (TS ws), s1, .dat (.loc i), s3, s4, s5, s6, .own (.l (so.map qD)), .dat (.str l.n), .dat (.str l.a), .dat (.str l.b), .dat (.str l.k), s12, .dat (TI (ratioF ws l.a l.b)), s14, s15], st⟩ (fun ds s' => ds.length + 1 ≤ sizeLine ∧ (so.map qD).length < sizeLine ∧ forR (gTp 4 (gCons (gN 8) (gCons (gN 9) (gCons (gN 10) (gCons (gN 11) gNil))))) lt1_2_0 (r.map lkD) ⟨[.dat (TS ws), s1, .dat (.loc i), s3, s4, s5, s6, .own (.l (so.map qD ++ [.tup (.int (w * z) :: ds)])), .dat (.str l.n), .dat (.str l.a), .dat (.str l.b), .dat (.str l.k), s12, .dat (TI (ratioF ws l.a l.b)), s14, s15], s'.n⟩ K) (fun _ _ => False)) := by
        intro z hz ez
        refine ⟨IntMulOk.of_right (by rcases hz with rfl | rfl <;> decide), ?_⟩
        refine ⟨_, _, _, hi, rfl, hg, _, at1', ?_⟩
        refine ⟨rfl, ws.length, s, ratioF ws l.a l.b, rfl, by omega, ratio_len ws _ _, sp_le hd.2.1 F.l, (by first | decide | (refine Nat.le_trans ?_ sizeLine_big; first | (simp only [List.length_append, List.length_cons, List.length_nil, List.length_map]; omega) | (simp; omega)) | (refine Nat.lt_of_lt_of_le ?_ sizeLine_big; first | (simp only [List.length_append, List.length_cons, List.length_nil, List.length_map]; omega) | (simp; omega))), ?_⟩
        refine ⟨Nat.lt_of_le_of_lt (show (so.map qD).length ≤ 3 by rw [List.length_map]; omega) (by decide), ?_⟩
        have e2 : so.map qD ++ [.tup [.int (w * z), timesD (ratioF ws l.a l.b) 8 s]] = (so ++ [(if l.k = "band" then w else -w, timesD (ratioF ws l.a l.b) 8 s)]).map qD := by
          rw [List.map_append, ez]
          rfl
        have main := lt_links (s3 := s3) (s4 := s4) (s5 := s5) (s6 := s6) (s12 := s12) (s14 := s14) (s15 := s15) (s1 := s1) (K := K) w1 w5 F hi r (so ++ [(if l.k = "band" then w else -w, timesD (ratioF ws l.a l.b) 8 s)]) (.dat (.str l.n)) (.dat (.str l.a)) (.dat (.str l.b)) (.dat (.str l.k)) (.dat (TI (ratioF ws l.a l.b))) (fun x hx => hL x (by simp [hx])) (by rw [List.length_append, List.length_singleton]; omega) fun t8 t9 t10 t11 t13 => by
          have := hK t8 t9 t10 t11 t13
          rw [List.filterMap_cons, e] at this
          rw [List.append_assoc]
          exact this
        rw [← e2] at main
        exact main
      show (if isSt "band" (.str l.k) = true then _ else _)
      rw [hb]
      by_cases ek : l.k = "band"
      · refine ite_yes (by simp [ek]) ?_
        obtain ⟨m1, m2⟩ := fin 1 (.inl rfl) (by rw [if_pos ek]; omega)
        exact ⟨m1, m2⟩
      · refine ite_no (by simp [ek]) ?_
        obtain ⟨m1, m2⟩ := fin (-1) (.inr rfl) (by rw [if_neg ek]; omega)
        exact ⟨m1, m2⟩
end KT
namespace KT
open PySem L2 VL KL KM KP SS
abbrev tg4 : MG := gTp 4 (gCons (gN 3) (gCons (gN 4) (gCons (gN 5) (gCons (gN 6) gNil))))
theorem put_again {f : Fnd} {n : Str} {d1 : Dn} {v : D} (h : n ∉ f.map (·.1)) : putKD (fndK (f ++ [(n, d1)])) (.inr n) v = fndK f ++ [(.inr n, v)] := by
  unfold putKD fndK
  rw [List.map_append, if_pos (by simp), List.map_append]
  congr 1
  · rw [List.map_map]
    refine List.map_congr_left fun q hq => ?_
    have e : ¬ ((Sum.inr q.1 : Key) = Sum.inr n) := fun z => h (by rw [← Sum.inr.inj z]; exact List.mem_map_of_mem hq)
    show (if (Sum.inr q.1 : Key) = Sum.inr n then _ else _) = _
    rw [if_neg e]
  · simp
/-- the loop over the shafts, by the law -/
theorem lt_loop {ws : List Str} {st : Ms} {i : Nat} {K : VE} {s1 : Slot} (w1 : 1 ≤ ws.length) (w5 : ws.length ≤ 5) (hi : i = st.h.length) : ∀ (sh : List Sft) (ns : List Str) (f : Fnd) (s3 s4 s5 s6 s7 s8 s9 s10 s11 s12 s13 s14 s15 : Slot), okF ws ns f → okT ws ns sh → ns.length + sh.length ≤ 8 →
    (∀ t3 t4 t5 t6 t7 t8 t9 t10 t11 t12 t13 t14 t15 : Slot, K.nx ⟨[.dat (TS ws), s1, .dat (.loc i), t3, t4, t5, t6, t7, t8, t9, t10, t11, t12, t13, t14, t15], ⟨st.n, st.h ++ [.k (fndK (turnF ws sh f))]⟩⟩) →
    forR tg4 lt1 (sh.map sfD) ⟨[.dat (TS ws), s1, .dat (.loc i), s3, s4, s5, s6, s7, s8, s9, s10, s11, s12, s13, s14, s15], ⟨st.n, st.h ++ [.k (fndK f)]⟩⟩ K
  | [], ns, f, s3, s4, s5, s6, s7, s8, s9, s10, s11, s12, s13, s14, s15, F, _, _, hK => hK _ _ _ _ _ _ _ _ _ _ _ _ _
  | s :: r, ns, f, s3, s4, s5, s6, s7, s8, s9, s10, s11, s12, s13, s14, s15, F, hT, hl, hK => by
    rw [List.length_cons] at hl
    obtain ⟨hS, hR⟩ := hT
    have hat : (st.h ++ [Cell.k (fndK f)])[i]? = some (.k (fndK f)) := by rw [hi]; simp
    have hset : ∀ c d, (st.h ++ [Cell.k d]).set i c = st.h ++ [c] := fun c d => by rw [hi]; simp
    have h3 : s.ls.length ≤ 3 := by
      by_cases q : ns = []
      · rw [(hS.h q).2.2]; decide
      · rcases hS.o q with h | h
        · omega
        · exact h.2.2.2
    have hlf : f.length = ns.length := by rw [← F.n, List.length_map]
    have go : ∀ t7 t8 t9 t10 t11 t12 t13 t14 t15 : Slot, forR tg4 lt1 (r.map sfD) ⟨[.dat (TS ws), s1, .dat (.loc i), .dat (.str s.n), .dat (.str s.m), .dat (.int s.w), .dat (.tup (s.ls.map lkD)), t7, t8, t9, t10, t11, t12, t13, t14, t15], ⟨st.n, st.h ++ [.k (fndK (f ++ [(s.n, stepF ws f s)]))]⟩⟩ K := fun t7 t8 t9 t10 t11 t12 t13 t14 t15 =>
      lt_loop w1 w5 hi r (ns ++ [s.n]) (f ++ [(s.n, stepF ws f s)]) _ _ _ _ _ _ _ _ _ _ _ _ _ (F.next hS (by omega)) hR (by rw [List.length_append, List.length_singleton]; omega) hK
    have fl : (fndK f).length < sizeLine := Nat.lt_of_le_of_lt (show (fndK f).length ≤ 8 by rw [fnd_len]; omega) (by decide)
    have hn : s.n ∉ f.map (·.1) := by rw [F.n]; exact hS.n
    have hh : ∀ z : Str, isSt z (.str s.m) = decide (s.m = z) := fun z => by simp [isSt, beq_dec]
    refine ⟨rfl, rfl, ?_⟩
    show lt1 ⟨[.dat (TS ws), s1, .dat (.loc i), .dat (.str s.n), .dat (.str s.m), .dat (.int s.w), .dat (.tup (s.ls.map lkD)), s7, s8, s9, s10, s11, s12, s13, s14, s15], ⟨st.n, st.h ++ [.k (fndK f)]⟩⟩ _
    refine ⟨rfl, _, rfl, ?_⟩
    rw [hh]
    by_cases c1 : s.m = "hand"
    · refine ite_yes (by simp [c1]) ?_
      have hstep : stepF ws f s = some (1, zeroP ws) := by unfold stepF; rw [if_pos c1]
      have hlw : (ws.map D.str).length = ws.length := List.length_map ..
      refine ⟨(by first | decide | (refine Nat.le_trans ?_ sizeLine_big; first | (simp only [List.length_append, List.length_cons, List.length_nil, List.length_map]; omega) | (simp; omega)) | (refine Nat.lt_of_lt_of_le ?_ sizeLine_big; first | (simp only [List.length_append, List.length_cons, List.length_nil, List.length_map]; omega) | (simp; omega))), ⟨by rw [hlw]; omega, by rw [hlw]; omega, (by decide : 1 ≤ 1000), List.cons_ne_nil _ _⟩, (by first | decide | (refine Nat.le_trans ?_ sizeLine_big; first | (simp only [List.length_append, List.length_cons, List.length_nil, List.length_map]; omega) | (simp; omega)) | (refine Nat.lt_of_lt_of_le ?_ sizeLine_big; first | (simp only [List.length_append, List.length_cons, List.length_nil, List.length_map]; omega) | (simp; omega))), (by first | decide | (refine Nat.le_trans ?_ sizeLine_big; first | (simp only [List.length_append, List.length_cons, List.length_nil, List.length_map]; omega) | (simp; omega)) | (refine Nat.lt_of_lt_of_le ?_ sizeLine_big; first | (simp only [List.length_append, List.length_cons, List.length_nil, List.length_map]; omega) | (simp; omega))), ?_⟩
      have ez : (D.tup [.str "product", .tup (List.replicate (((ws.map D.str).length : Nat) : Int).toNat [D.int 0]).flatten]) = zeroP ws := by
        unfold zeroP
        rw [hlw, Int.toNat_natCast]
        congr 1
        congr 1
        congr 1
        show D.tup _ = D.tup _
        congr 1
        apply List.ext_getElem
        · simp
        · intro j g1 g2
          simp
      refine ⟨fndK f, .inr s.n, hat, rfl, fl, ?_⟩
      have := go s7 s8 s9 s10 s11 s12 s13 s14 s15
      rw [hstep] at this
      have e1 := putK_fnd (f := f) (n := s.n) (q := some (1, zeroP ws)) hn
      show forR tg4 lt1 (r.map sfD) ⟨_, ⟨_, (st.h ++ [Cell.k (fndK f)]).set i (.k (putKD (fndK f) (.inr s.n) _))⟩⟩ K
      rw [ez]
      show forR tg4 lt1 (r.map sfD) ⟨_, ⟨_, (st.h ++ [Cell.k (fndK f)]).set i (.k (putKD (fndK f) (.inr s.n) (dnD (some (1, zeroP ws)))))⟩⟩ K
      rw [e1, hset]
      exact this
    · refine ite_no (by simp [c1]) ?_
      refine ⟨(by first | decide | (refine Nat.le_trans ?_ sizeLine_big; first | (simp only [List.length_append, List.length_cons, List.length_nil, List.length_map]; omega) | (simp; omega)) | (refine Nat.lt_of_lt_of_le ?_ sizeLine_big; first | (simp only [List.length_append, List.length_cons, List.length_nil, List.length_map]; omega) | (simp; omega))), ?_⟩
      refine lt_links (st := ⟨st.n, st.h ++ [.k (fndK f)]⟩) (so := []) w1 w5 F hat s.ls _ _ _ _ _ hS.ls (by simpa using h3) fun t8 t9 t10 t11 t13 => ?_
      rw [List.nil_append]
      have hso : (s.ls.filterMap (brF ws f)).length ≤ 3 := Nat.le_trans (List.length_filterMap_le _ _) h3
      have hstep : stepF ws f s = (if s.m = "hand" then some (1, zeroP ws) else if s.m = "fixed" then (s.ls.filterMap (brF ws f)).head? else if ((s.ls.filterMap (brF ws f)).filter fun q => decide (q.1 = s.w)).map (·.2) = [] then none else some (s.w, .tup [.str (if s.m = "fast" then "greatest" else "least"), .tup (((s.ls.filterMap (brF ws f)).filter fun q => decide (q.1 = s.w)).map (·.2))])) := rfl
      generalize s.ls.filterMap (brF ws f) = so at hso hstep ⊢
      rw [if_neg c1] at hstep
      show compR _ _ _ _ (so.map qD) _ [] _
      refine compR_filterT qD (fun q => decide (s.m = "fixed") || decide (q.1 = s.w)) so [] (by simp; omega) (fun q hq a b h1 h0 => ?_) ?_
      · refine ⟨rfl, _, rfl, ?_⟩
        rw [hh]
        by_cases c2 : s.m = "fixed"
        · exact ite_yes (by simp [c2]) (h1 (by simp [c2]))
        · refine ite_no (by simp [c2]) ?_
          refine ⟨_, at0', _, rfl, ?_⟩
          show (if (q.1 == s.w) = true then _ else _)
          by_cases e : q.1 = s.w
          · exact ite_yes (by simp [e]) (h1 (by simp [e]))
          · exact ite_no (by simp [e]) (h0 (by simp [e, c2]))
      rw [List.nil_append]
      have put : ∀ (q : Dn) (t7 t12 : Slot) (N : VE), lt1_5 ⟨[.dat (TS ws), s1, .dat (.loc i), .dat (.str s.n), .dat (.str s.m), .dat (.int s.w), .dat (.tup (s.ls.map lkD)), t7, t8, t9, t10, t11, t12, t13, s14, s15], ⟨st.n, st.h ++ [.k (fndK (f ++ [(s.n, q)]))]⟩⟩ N → mSeq (mDPut (mVar 2) (mVar 3) (mC (dnD q))) lt1_5 ⟨[.dat (TS ws), s1, .dat (.loc i), .dat (.str s.n), .dat (.str s.m), .dat (.int s.w), .dat (.tup (s.ls.map lkD)), t7, t8, t9, t10, t11, t12, t13, s14, s15], ⟨st.n, st.h ++ [.k (fndK f)]⟩⟩ N := by
        intro q t7 t12 N h
        refine ⟨fndK f, .inr s.n, hat, rfl, fl, ?_⟩
        rw [putK_fnd hn, hset]
        exact h
      by_cases c2 : s.m = "fixed"
      · rw [if_pos c2] at hstep
        rw [show (so.filter fun q => decide (s.m = "fixed") || decide (q.1 = s.w)) = so from List.filter_eq_self.mpr fun q hq => by simp [c2]]
        cases so with
        | nil =>
          refine ⟨(by first | decide | (refine Nat.le_trans ?_ sizeLine_big; first | (simp only [List.length_append, List.length_cons, List.length_nil, List.length_map]; omega) | (simp; omega)) | (refine Nat.lt_of_lt_of_le ?_ sizeLine_big; first | (simp only [List.length_append, List.length_cons, List.length_nil, List.length_map]; omega) | (simp; omega))), _, rfl, ?_⟩
          refine ite_yes rfl ?_
          refine put none _ _ _ ?_
          refine ⟨(by first | decide | (refine Nat.le_trans ?_ sizeLine_big; first | (simp only [List.length_append, List.length_cons, List.length_nil, List.length_map]; omega) | (simp; omega)) | (refine Nat.lt_of_lt_of_le ?_ sizeLine_big; first | (simp only [List.length_append, List.length_cons, List.length_nil, List.length_map]; omega) | (simp; omega))), _, rfl, ?_⟩
          refine ite_no (by decide) ?_
          rw [hstep] at go
          exact go _ _ _ _ _ _ _ _ _
        | cons q r' =>
          refine ⟨(by first | decide | (refine Nat.le_trans ?_ sizeLine_big; first | (simp only [List.length_append, List.length_cons, List.length_nil, List.length_map]; omega) | (simp; omega)) | (refine Nat.lt_of_lt_of_le ?_ sizeLine_big; first | (simp only [List.length_append, List.length_cons, List.length_nil, List.length_map]; omega) | (simp; omega))), _, rfl, ?_⟩
          refine ite_no (by simp) ?_
          refine ⟨_, at0', ?_⟩
          refine put (some q) _ _ _ ?_
          refine ⟨(by first | decide | (refine Nat.le_trans ?_ sizeLine_big; first | (simp only [List.length_append, List.length_cons, List.length_nil, List.length_map]; omega) | (simp; omega)) | (refine Nat.lt_of_lt_of_le ?_ sizeLine_big; first | (simp only [List.length_append, List.length_cons, List.length_nil, List.length_map]; omega) | (simp; omega))), _, rfl, ?_⟩
          refine ite_yes (by simp) ?_
          refine ⟨_, rfl, ?_⟩
          refine ite_no (by simp [c2]) ?_
          rw [hstep] at go
          exact go _ _ _ _ _ _ _ _ _
      · rw [if_neg c2] at hstep
        rw [show (so.filter fun q => decide (s.m = "fixed") || decide (q.1 = s.w)) = so.filter (fun q => decide (q.1 = s.w)) from List.filter_congr fun q hq => by simp [c2]]
        have hgd : (so.filter (fun q => decide (q.1 = s.w))).length ≤ 3 := Nat.le_trans (List.length_filter_le _ _) hso
        generalize so.filter (fun q => decide (q.1 = s.w)) = gd at hstep hgd ⊢
        cases gd with
        | nil =>
          refine ⟨(by first | decide | (refine Nat.le_trans ?_ sizeLine_big; first | (simp only [List.length_append, List.length_cons, List.length_nil, List.length_map]; omega) | (simp; omega)) | (refine Nat.lt_of_lt_of_le ?_ sizeLine_big; first | (simp only [List.length_append, List.length_cons, List.length_nil, List.length_map]; omega) | (simp; omega))), _, rfl, ?_⟩
          refine ite_yes rfl ?_
          refine put none _ _ _ ?_
          refine ⟨(by first | decide | (refine Nat.le_trans ?_ sizeLine_big; first | (simp only [List.length_append, List.length_cons, List.length_nil, List.length_map]; omega) | (simp; omega)) | (refine Nat.lt_of_lt_of_le ?_ sizeLine_big; first | (simp only [List.length_append, List.length_cons, List.length_nil, List.length_map]; omega) | (simp; omega))), _, rfl, ?_⟩
          refine ite_no (by decide) ?_
          rw [hstep] at go
          exact go _ _ _ _ _ _ _ _ _
        | cons q r' =>
          rw [if_neg (by simp)] at hstep
          refine ⟨(by first | decide | (refine Nat.le_trans ?_ sizeLine_big; first | (simp only [List.length_append, List.length_cons, List.length_nil, List.length_map]; omega) | (simp; omega)) | (refine Nat.lt_of_lt_of_le ?_ sizeLine_big; first | (simp only [List.length_append, List.length_cons, List.length_nil, List.length_map]; omega) | (simp; omega))), _, rfl, ?_⟩
          refine ite_no (by simp) ?_
          refine ⟨_, at0', ?_⟩
          refine put (some q) _ _ _ ?_
          refine ⟨(by first | decide | (refine Nat.le_trans ?_ sizeLine_big; first | (simp only [List.length_append, List.length_cons, List.length_nil, List.length_map]; omega) | (simp; omega)) | (refine Nat.lt_of_lt_of_le ?_ sizeLine_big; first | (simp only [List.length_append, List.length_cons, List.length_nil, List.length_map]; omega) | (simp; omega))), _, rfl, ?_⟩
          refine ite_yes (by simp) ?_
          refine ⟨_, rfl, ?_⟩
          refine ite_yes (by simp [c2]) ?_
          generalize q :: r' = G at hstep hgd ⊢
          rw [hstep] at go
          have two : ∀ w : Str, w = (if s.m = "fast" then ("greatest" : Str) else ("least" : Str)) → ∃ ks k, (st.h ++ [Cell.k (fndK (f ++ [(s.n, some q)]))])[i]? = some (.k ks) ∧ dKey (.str s.n) = some k ∧ ks.length < sizeLine ∧ forR tg4 lt1 (r.map sfD) ⟨[.dat (TS ws), s1, .dat (.loc i), .dat (.str s.n), .dat (.str s.m), .dat (.int s.w), .dat (.tup (s.ls.map lkD)), .dat (.lst (so.map qD)), t8, t9, t10, t11, .dat (.lst (G.map qD)), t13, s14, s15], ⟨st.n, (st.h ++ [Cell.k (fndK (f ++ [(s.n, some q)]))]).set i (.k (putKD ks k (.tup [.int s.w, .tup [.str w, .tup (G.map fun z : Int × D => z.2)]])))⟩⟩ K := by
            intro w ew
            refine ⟨fndK (f ++ [(s.n, some q)]), .inr s.n, by rw [hi]; simp, rfl, Nat.lt_of_le_of_lt (show (fndK (f ++ [(s.n, some q)])).length ≤ 9 by rw [fnd_len, List.length_append, List.length_singleton]; omega) (by decide), ?_⟩
            rw [put_again hn, hset, ew]
            have := go (.dat (.lst (so.map qD))) t8 t9 t10 t11 (.dat (.lst (G.map qD))) t13 s14 s15
            unfold fndK at this ⊢
            rw [List.map_append] at this
            exact this
          refine ⟨rfl, _, rfl, ?_⟩
          rw [hh]
          by_cases c3 : s.m = "fast"
          · refine ite_yes (by simp [c3]) ?_
            show compR _ _ _ _ (G.map qD) _ [] _
            refine compR_mapT qD (fun q => q.2) G [] (by simp at hgd ⊢; omega) (fun z hz a ha => ⟨_, at1', ha⟩) ?_
            rw [List.nil_append]
            exact ⟨(by first | decide | (refine Nat.le_trans ?_ sizeLine_big; first | (simp only [List.length_append, List.length_cons, List.length_nil, List.length_map]; omega) | (simp; omega)) | (refine Nat.lt_of_lt_of_le ?_ sizeLine_big; first | (simp only [List.length_append, List.length_cons, List.length_nil, List.length_map]; omega) | (simp; omega))), (by first | decide | (refine Nat.le_trans ?_ sizeLine_big; first | (simp only [List.length_append, List.length_cons, List.length_nil, List.length_map]; omega) | (simp; omega)) | (refine Nat.lt_of_lt_of_le ?_ sizeLine_big; first | (simp only [List.length_append, List.length_cons, List.length_nil, List.length_map]; omega) | (simp; omega))), two _ (by rw [if_pos c3])⟩
          · refine ite_no (by simp [c3]) ?_
            show compR _ _ _ _ (G.map qD) _ [] _
            refine compR_mapT qD (fun q => q.2) G [] (by simp at hgd ⊢; omega) (fun z hz a ha => ⟨_, at1', ha⟩) ?_
            rw [List.nil_append]
            exact ⟨(by first | decide | (refine Nat.le_trans ?_ sizeLine_big; first | (simp only [List.length_append, List.length_cons, List.length_nil, List.length_map]; omega) | (simp; omega)) | (refine Nat.lt_of_lt_of_le ?_ sizeLine_big; first | (simp only [List.length_append, List.length_cons, List.length_nil, List.length_map]; omega) | (simp; omega))), (by first | decide | (refine Nat.le_trans ?_ sizeLine_big; first | (simp only [List.length_append, List.length_cons, List.length_nil, List.length_map]; omega) | (simp; omega)) | (refine Nat.lt_of_lt_of_le ?_ sizeLine_big; first | (simp only [List.length_append, List.length_cons, List.length_nil, List.length_map]; omega) | (simp; omega))), two _ (by rw [if_neg c3])⟩
theorem v_law_turning (ds : List D) (st : Ms) (Q : D → Ms → Prop) (E : Exn → Ms → Prop) (h : F_law_turning ds st Q E) : m_law_turning ⟨startE sz_law_turning ds, st⟩ (endsOf Q E) := by
  obtain ⟨ws, sh, rfl, w1, w5, h8, hT, hq⟩ := h
  show mSeq (mFor (mIt itL (mVar 1)) tg4 lt1) lt2 ⟨[.dat (TS ws), .dat (.lst (sh.map sfD)), .dat (.loc st.h.length), .un, .un, .un, .un, .un, .un, .un, .un, .un, .un, .un, .un, .un], ⟨st.n, st.h ++ [.k []]⟩⟩ (endsOf Q E)
  refine lt_loop (i := st.h.length) w1 w5 rfl sh [] [] _ _ _ _ _ _ _ _ _ _ _ _ _ okF.nil hT (by simpa using h8) fun t3 t4 t5 t6 t7 t8 t9 t10 t11 t12 t13 t14 t15 => ?_
  show lt2 ⟨[.dat (TS ws), .dat (.lst (sh.map sfD)), .dat (.loc st.h.length), t3, t4, t5, t6, t7, t8, t9, t10, t11, t12, t13, t14, t15], ⟨st.n, st.h ++ [.k (fndK (turnF ws sh []))]⟩⟩ (endsOf Q E)
  refine ⟨fndK (turnF ws sh []), by simp, ?_⟩
  have e : (st.h ++ [Cell.k (fndK (turnF ws sh []))]).set st.h.length .x = st.h ++ [.x] := by simp
  show Q _ ⟨st.n, (st.h ++ [Cell.k (fndK (turnF ws sh []))]).set st.h.length .x⟩
  rw [e]
  exact hq
end KT
namespace KT
open PySem L2 VL KL KM KP SS
theorem maxI_add {α : Type} {f g : α → Int} {c : Int} {xs : List α} (h : xs ≠ []) (e : ∀ x ∈ xs, f x = g x + c) : maxI (xs.map f) = maxI (xs.map g) + c := by
  have hn : xs.map g ≠ [] := by simpa using h
  obtain ⟨h1, h2⟩ := maxI_top hn
  obtain ⟨x, hx, hxe⟩ := List.mem_map.mp h1
  refine maxI_eq (List.mem_map.mpr ⟨x, hx, by rw [e x hx, hxe]⟩) fun y hy => ?_
  obtain ⟨z, hz, rfl⟩ := List.mem_map.mp hy
  rw [e z hz]
  have := h2 (g z) (List.mem_map.mpr ⟨z, hz, rfl⟩)
  omega
theorem minI_add {α : Type} {f g : α → Int} {c : Int} {xs : List α} (h : xs ≠ []) (e : ∀ x ∈ xs, f x = g x + c) : minI (xs.map f) = minI (xs.map g) + c := by
  have hn : xs.map g ≠ [] := by simpa using h
  obtain ⟨h1, h2⟩ := minI_low hn
  obtain ⟨x, hx, hxe⟩ := List.mem_map.mp h1
  refine minI_eq (List.mem_map.mpr ⟨x, hx, by rw [e x hx, hxe]⟩) fun y hy => ?_
  obtain ⟨z, hz, rfl⟩ := List.mem_map.mp hy
  rw [e z hz]
  have := h2 (g z) (List.mem_map.mpr ⟨z, hz, rfl⟩)
  omega
theorem dotL_cons (x y : Int) (xs ys : List Int) : SX.dotL (x :: xs) (y :: ys) = x * y + SX.dotL xs ys := by
  simp [SX.dotL]
theorem dotL_addI : ∀ (cs ps ns : List Int), cs.length = ns.length → ps.length = ns.length → SX.dotL (addI cs ps) ns = SX.dotL cs ns + SX.dotL ps ns
  | [], [], [], _, _ => by simp [addI, SX.dotL]
  | c :: cs, p :: ps, n :: ns, h1, h2 => by
    have := dotL_addI cs ps ns (by simpa using h1) (by simpa using h2)
    show SX.dotL ((c + p) :: addI cs ps) (n :: ns) = _
    rw [dotL_cons, dotL_cons, dotL_cons, this, Int.add_mul]
    omega
  | [], _ :: _, [], _, h => by simp at h
  | _ :: _, _, [], h, _ => by simp at h
  | [], _, _ :: _, h, _ => by simp at h
  | _ :: _, [], _ :: _, _, h => by simp at h
theorem weight_times {k : Nat} {ns ps : List Int} (hn : ns.length = k) (hp : ps.length = k) : ∀ (j : Nat) (d : D), isSp k j d = true → weightD ns j (timesD ps j d) = weightD ns j d + SX.dotL ps ns
  | 0, d, h => by cases h
  | j + 1, d, h => by
    simp only [isSp] at h
    cases hc : nodeOk k d with
    | none => rw [hc] at h; cases h
    | some cs =>
      rw [hc] at h
      obtain ⟨hd, es, rfl, ⟨h1, h2, rfl⟩ | ⟨h1, h2, h3, h4, rfl⟩⟩ := nodeOk_some hc
      · obtain ⟨e1, e2⟩ := nums_ints h2
        have h0 : isSt "product" (.str "product") = true := by decide +kernel
        simp only [timesD, weightD, h1, h0, if_true, intsL_map]
        exact dotL_addI _ _ _ (by omega) (by omega)
      · simp only [timesD, weightD, h1, Bool.false_eq_true, if_false, List.map_map]
        have hne : cs ≠ [] := fun e => by rw [e] at h3; simp at h3
        have ih : ∀ x ∈ cs, (weightD ns j ∘ timesD ps j) x = weightD ns j x + SX.dotL ps ns := fun x hx => weight_times hn hp j x (List.all_eq_true.mp h x hx)
        by_cases g : isSt "greatest" hd = true
        · rw [if_pos g, if_pos g]
          exact maxI_add hne ih
        · rw [if_neg g, if_neg g]
          exact minI_add hne ih
theorem weight_mono {k : Nat} {ns : List Int} : ∀ (j : Nat) (d : D), isSp k j d = true → weightD ns (j + 1) d = weightD ns j d
  | 0, d, h => by cases h
  | j + 1, d, h => by
    simp only [isSp] at h
    cases hc : nodeOk k d with
    | none => rw [hc] at h; cases h
    | some cs =>
      rw [hc] at h
      obtain ⟨hd, es, rfl, ⟨h1, h2, rfl⟩ | ⟨h1, h2, h3, h4, rfl⟩⟩ := nodeOk_some hc
      · simp only [weightD, h1, if_true]
      · have e : cs.map (weightD ns (j + 1)) = cs.map (weightD ns j) := List.map_congr_left fun x hx => weight_mono j x (List.all_eq_true.mp h x hx)
        rw [weightD, weightD, e]
/-- the integer of a size -/
def lkI (ws : List Str) (ns : List Int) (a : Str) : Int := (((ws.zip ns).find? fun q => decide (q.1 = a)).map (·.2)).getD 0
def indI (ws : List Str) (a : Str) : List Int := ws.map fun z => if z = a then 1 else 0
theorem ind_no {a : Str} : ∀ (ws : List Str) (ns : List Int), a ∉ ws → ws.length = ns.length → SX.dotL (indI ws a) ns = 0
  | [], _, _, _ => by simp [indI, SX.dotL]
  | w :: ws, [], _, h => by simp at h
  | w :: ws, n :: ns, h, hl => by
    have h1 : ¬ w = a := fun e => h (by simp [e])
    have := ind_no (a := a) ws ns (fun e => h (List.mem_cons_of_mem _ e)) (by simpa using hl)
    show SX.dotL ((if w = a then 1 else 0) :: indI ws a) (n :: ns) = 0
    rw [dotL_cons, if_neg h1, this]
    omega
theorem dot_ind {a : Str} : ∀ (ws : List Str) (ns : List Int), ws.Nodup → a ∈ ws → ws.length = ns.length → SX.dotL (indI ws a) ns = lkI ws ns a
  | [], _, _, h, _ => by simp at h
  | w :: ws, [], _, _, h => by simp at h
  | w :: ws, n :: ns, hd, h, hl => by
    have hd' := List.nodup_cons.mp hd
    show SX.dotL ((if w = a then 1 else 0) :: indI ws a) (n :: ns) = _
    rw [dotL_cons]
    unfold lkI
    rw [List.zip_cons_cons, List.find?_cons]
    by_cases e : w = a
    · subst e
      rw [if_pos rfl, ind_no ws ns hd'.1 (by simpa using hl)]
      simp
    · have hm : a ∈ ws := by
        rcases List.mem_cons.mp h with z | z
        · exact absurd z.symm e
        · exact z
      have := dot_ind ws ns hd'.2 hm (by simpa using hl)
      rw [if_neg e, this]
      simp only [decide_eq_false e]
      unfold lkI
      omega
theorem dot_ratio {ws : List Str} {ns : List Int} {a b : Str} (hd : ws.Nodup) (ha : a ∈ ws) (hb : b ∈ ws) (hl : ws.length = ns.length) : SX.dotL (ratioF ws a b) ns = lkI ws ns a - lkI ws ns b := by
  have e : ∀ (ws : List Str) (ns : List Int), ws.length = ns.length → SX.dotL (ratioF ws a b) ns = SX.dotL (indI ws a) ns - SX.dotL (indI ws b) ns := by
    intro ws
    induction ws with
    | nil => intro ns _; simp [ratioF, indI, SX.dotL]
    | cons w ws ih =>
      intro ns hl
      cases ns with
      | nil => simp at hl
      | cons n ns =>
        have := ih ns (by simpa using hl)
        show SX.dotL (((if w = a then 1 else 0) - (if w = b then 1 else 0)) :: ratioF ws a b) (n :: ns) = SX.dotL ((if w = a then 1 else 0) :: indI ws a) (n :: ns) - SX.dotL ((if w = b then 1 else 0) :: indI ws b) (n :: ns)
        rw [dotL_cons, dotL_cons, dotL_cons, this, Int.sub_mul]
        omega
  rw [e ws ns hl, dot_ind ws ns hd ha hl, dot_ind ws ns hd hb hl]
/-- what is worked out link by link with integers put in -/
abbrev Pn := List (Str × Option (Int × Int))
def lookP (p : Pn) (n : Str) : Option (Int × Int) := ((p.find? fun q => decide (q.1 = n)).map (·.2)).getD none
def linkP (lk : Str → Int) (p : Pn) (l : Lnk) : Option (Int × Int) := (lookP p l.n).map fun q => (q.1 * (if l.k = "band" then 1 else -1), q.2 + lk l.a - lk l.b)
def stepP (lk : Str → Int) (p : Pn) (s : Sft) : Option (Int × Int) :=
  let so := (if s.m = "hand" then [((1 : Int), (0 : Int))] else []) ++ s.ls.filterMap (linkP lk p)
  let gd := so.filter fun q => (decide (s.m = "hand") || decide (s.m = "fixed")) || decide (q.1 = s.w)
  gd.head?.map fun g => (g.1, if s.m = "slow" then minI (gd.map (·.2)) else maxI (gd.map (·.2)))
def putF (lk : Str → Int) : List Sft → Pn → Pn
  | [], p => p
  | s :: r, p => putF lk r (p ++ [(s.n, stepP lk p s)])
def wD (ns : List Int) (q : Int × D) : Int × Int := (q.1, weightD ns 8 q.2)
def wF (ns : List Int) (f : Fnd) : Pn := f.map fun q => (q.1, q.2.map (wD ns))
theorem look_w {ns : List Int} (n : Str) : ∀ f : Fnd, lookP (wF ns f) n = (lookF f n).map (wD ns)
  | [] => rfl
  | q :: r => by
    have ih := look_w (ns := ns) n r
    unfold lookP lookF wF at ih ⊢
    rw [List.map_cons, List.find?_cons, List.find?_cons]
    by_cases e : q.1 = n
    · simp [e]
    · simp only [decide_eq_false e]
      exact ih
theorem link_w {ws nm : List Str} {ns : List Int} {f : Fnd} {l : Lnk} (hd : ws.Nodup) (hl : ws.length = ns.length) (F : okF ws nm f) (L : okLk ws nm l) : linkP (lkI ws ns) (wF ns f) l = (brF ws f l).map (wD ns) := by
  unfold linkP brF
  rw [look_w]
  have ho := look_ok F.o l.n
  cases h : lookF f l.n with
  | none => rfl
  | some q =>
    rw [h] at ho
    obtain ⟨w, s⟩ := q
    have hs : isSp ws.length 8 s = true := sp_le ho.2.1 F.l
    simp only [Option.map_some, wD]
    rw [weight_times (k := ws.length) hl.symm (ratio_len ws _ _) 8 s hs, dot_ratio hd L.a L.b hl]
    congr 1
    congr 1
    · by_cases e : l.k = "band"
      · rw [if_pos e, if_pos e]; omega
      · rw [if_neg e, if_neg e]; omega
    · omega
theorem dot_zero (ws : List Str) : ∀ ns : List Int, SX.dotL (ws.map fun _ => 0) ns = 0 := by
  induction ws with
  | nil => intro ns; simp [SX.dotL]
  | cons w ws ih =>
    intro ns
    cases ns with
    | nil => simp [SX.dotL]
    | cons n ns =>
      show SX.dotL (0 :: ws.map fun _ => 0) (n :: ns) = 0
      rw [dotL_cons, ih ns]
      omega
theorem zero_w (ws : List Str) (ns : List Int) : weightD ns 8 (zeroP ws) = 0 := by
  have h0 : isSt "product" (.str "product") = true := by decide +kernel
  unfold zeroP
  simp only [weightD, h0, if_true, intsL_map]
  exact dot_zero ws ns
theorem so_w {ws nm : List Str} {ns : List Int} {f : Fnd} (hd : ws.Nodup) (hl : ws.length = ns.length) (F : okF ws nm f) : ∀ ls : List Lnk, (∀ l ∈ ls, okLk ws nm l) → ls.filterMap (linkP (lkI ws ns) (wF ns f)) = (ls.filterMap (brF ws f)).map (wD ns)
  | [], _ => rfl
  | l :: r, h => by
    have ih := so_w hd hl F r fun x hx => h x (by simp [hx])
    rw [List.filterMap_cons, List.filterMap_cons, link_w hd hl F (h l (by simp))]
    cases brF ws f l with
    | none => exact ih
    | some q => simp only [Option.map_some, List.map_cons, ih]
theorem max_one (x : Int) : maxI [x] = x := rfl
theorem step_w {ws nm : List Str} {ns : List Int} {f : Fnd} {s : Sft} (hd : ws.Nodup) (hl : ws.length = ns.length) (F : okF ws nm f) (hS : okSf ws nm s) (h7 : nm.length ≤ 7) : (stepF ws f s).map (wD ns) = stepP (lkI ws ns) (wF ns f) s := by
  unfold stepP stepF
  rw [so_w hd hl F s.ls hS.ls]
  have hb : ∀ q ∈ s.ls.filterMap (brF ws f), isSp ws.length 7 q.2 = true := fun q hq => by
    obtain ⟨l, _, e⟩ := so_mem hq
    exact sp_le (br_ok (by omega) F.o e).2.1 h7
  by_cases c1 : s.m = "hand"
  · have hn : nm = [] := Classical.byContradiction fun hn => by
      rcases hS.o hn with ⟨k, _⟩ | ⟨k | k, _⟩ <;> rw [c1] at k <;> exact absurd k (by decide)
    have h3 := (hS.h hn).2.2
    have c3 : ¬ s.m = "slow" := by rw [c1]; decide
    rw [if_pos c1, if_pos c1, h3]
    simp only [if_neg c3, List.filterMap_nil, List.map_nil, List.append_nil, decide_eq_true c1, Bool.true_or, List.filter_cons, if_true, List.filter_nil, List.head?_cons, Option.map_some, List.map_cons, max_one, wD, zero_w]
  · have hns : nm ≠ [] := fun e => c1 (hS.h e).1
    rw [if_neg c1, if_neg c1, List.nil_append]
    by_cases c2 : s.m = "fixed"
    · have c3 : ¬ s.m = "slow" := by rw [c2]; decide
      have h1 : (s.ls.filterMap (brF ws f)).length ≤ 1 := by
        rcases hS.o hns with ⟨_, _, k⟩ | ⟨k | k, _⟩
        · exact Nat.le_trans (List.length_filterMap_le _ _) (by omega)
        · rw [c2] at k; exact absurd k (by decide)
        · rw [c2] at k; exact absurd k (by decide)
      rw [if_pos c2]
      simp only [if_neg c3]
      generalize s.ls.filterMap (brF ws f) = so at h1
      match so, h1 with
      | [], _ => rfl
      | [q], _ => simp only [decide_eq_true c2, Bool.or_true, Bool.true_or, List.map_cons, List.map_nil, List.filter_cons, if_true, List.filter_nil, List.head?_cons, Option.map_some, max_one, wD]
    · rw [if_neg c2]
      dsimp only
      generalize s.ls.filterMap (brF ws f) = so at hb ⊢
      have eg : (so.map (wD ns)).filter (fun q => (decide (s.m = "hand") || decide (s.m = "fixed")) || decide (q.1 = s.w)) = (so.filter fun q => decide (q.1 = s.w)).map (wD ns) := by
        rw [List.filter_map]
        congr 1
        refine List.filter_congr fun q _ => ?_
        simp only [decide_eq_false c1, decide_eq_false c2, Bool.or_false, Bool.false_or, Function.comp]
        rfl
      rw [eg]
      have hg : ∀ q ∈ so.filter (fun q => decide (q.1 = s.w)), q.1 = s.w ∧ isSp ws.length 7 q.2 = true := fun q hq => ⟨by simpa using (List.mem_filter.mp hq).2, hb q (List.mem_filter.mp hq).1⟩
      generalize so.filter (fun q => decide (q.1 = s.w)) = gd at hg
      cases gd with
      | nil => rfl
      | cons g r =>
        rw [if_neg (by simp)]
        simp only [List.map_cons, List.head?_cons, Option.map_some]
        have e1 := (hg g (by simp)).1
        have ew : ∀ q ∈ g :: r, weightD ns 7 q.2 = weightD ns 8 q.2 := fun q hq => (weight_mono 7 q.2 (hg q hq).2).symm
        have em : ((g :: r).map (·.2)).map (weightD ns 7) = ((g :: r).map (wD ns)).map (·.2) := by
          rw [List.map_map, List.map_map]
          exact List.map_congr_left fun q hq => ew q hq
        have hp : ∀ x : Str, x = "greatest" ∨ x = "least" → isSt "product" (.str x) = false := fun x hx => by rcases hx with rfl | rfl <;> decide
        show some (wD ns (s.w, _)) = some (g.1, _)
        rw [e1]
        congr 1
        unfold wD
        congr 1
        show weightD ns 8 (.tup [.str (if s.m = "fast" then "greatest" else "least"), .tup ((g :: r).map (·.2))]) = if s.m = "slow" then minI (((g :: r).map (wD ns)).map (·.2)) else maxI (((g :: r).map (wD ns)).map (·.2))
        rw [← em]
        have g1 : isSt "greatest" (.str "greatest") = true := by decide +kernel
        have g2 : isSt "greatest" (.str "least") = false := by decide +kernel
        have unf : ∀ (x : D) (cs : List D), weightD ns 8 (.tup [x, .tup cs]) = if isSt "product" x then SX.dotL (intsL cs) ns else if isSt "greatest" x then maxI (cs.map (weightD ns 7)) else minI (cs.map (weightD ns 7)) := fun _ _ => rfl
        rw [unf]
        rcases hS.o hns with ⟨k, _⟩ | ⟨k | k, _⟩
        · exact absurd k c2
        · have c3 : ¬ s.m = "slow" := by rw [k]; decide
          rw [if_neg c3, if_pos k, hp _ (.inl rfl), g1]
          rfl
        · have c4 : ¬ s.m = "fast" := by rw [k]; decide
          rw [if_pos k, if_neg c4, hp _ (.inr rfl), g2]
          rfl
theorem put_w {ws : List Str} {ns : List Int} (hd : ws.Nodup) (hl : ws.length = ns.length) : ∀ (sh : List Sft) (nm : List Str) (f : Fnd), okF ws nm f → okT ws nm sh → nm.length + sh.length ≤ 8 → putF (lkI ws ns) sh (wF ns f) = wF ns (turnF ws sh f)
  | [], _, _, _, _, _ => rfl
  | s :: r, nm, f, F, h, h8 => by
    rw [List.length_cons] at h8
    have ih := put_w hd hl r (nm ++ [s.n]) (f ++ [(s.n, stepF ws f s)]) (F.next h.1 (by omega)) h.2 (by rw [List.length_append, List.length_singleton]; omega)
    show putF _ r (wF ns f ++ [(s.n, stepP _ (wF ns f) s)]) = _
    rw [← step_w hd hl F h.1 (by omega)]
    have e : wF ns f ++ [(s.n, (stepF ws f s).map (wD ns))] = wF ns (f ++ [(s.n, stepF ws f s)]) := by
      unfold wF
      rw [List.map_append]
      rfl
    rw [e]
    exact ih
end KT
namespace KT
open PySem L2 VL KL KM KP SS
theorem wts_ints : ∀ x : List Int, wts (x.map .int) = 70 * x.length
  | [] => rfl
  | i :: x => by rw [List.map_cons, wts, wts_ints x, List.length_cons]; simp only [wt]; omega
theorem wts_same {f : D → D} : ∀ {ds : List D}, (∀ d ∈ ds, wt (f d) = wt d) → wts (ds.map f) = wts ds
  | [], _ => rfl
  | d :: ds, h => by rw [List.map_cons, wts, wts, h d (by simp), wts_same (fun x hx => h x (by simp [hx]))]
theorem wts_le {b : Nat} : ∀ {ds : List D}, (∀ d ∈ ds, wt d ≤ b) → wts ds ≤ ds.length * b
  | [], _ => by simp [wts]
  | d :: ds, h => by
    have h1 := h d (by simp)
    have h2 := wts_le (b := b) (ds := ds) fun x hx => h x (by simp [hx])
    rw [wts, List.length_cons, Nat.add_mul]
    omega
theorem wt_times {k : Nat} {ps : List Int} (hl : ps.length = k) : ∀ (f j : Nat) (d : D), j ≤ f → isSp k j d = true → wt (timesD ps f d) = wt d
  | 0, j, d, hj, h => by
    rw [show j = 0 by omega] at h
    cases h
  | f + 1, 0, d, hj, h => by cases h
  | f + 1, j + 1, d, hj, h => by
    simp only [isSp] at h
    cases hn : nodeOk k d with
    | none => rw [hn] at h; cases h
    | some cs =>
    rw [hn] at h
    obtain ⟨hd, ds, rfl, ⟨h1, h2, rfl⟩ | ⟨h1, h2, h3, h4, rfl⟩⟩ := nodeOk_some hn
    · obtain ⟨e1, e2⟩ := nums_ints h2
      have e2' : (intsL ds).length = k := by omega
      have e3 := addI_len (a := intsL ds) (b := ps) (by rw [e2', hl])
      have eh := isSt_eq h1
      subst eh
      simp only [timesD, h1, if_true, wt, wts]
      rw [wts_ints, e3, hl]
      have : wts ds = 70 * k := by rw [e1, wts_ints, e2']
      omega
    · simp only [timesD, h1, Bool.false_eq_true, if_false, wt, wts]
      rw [wts_same fun c hc' => wt_times hl f j c (by omega) (List.all_eq_true.mp h c hc')]
theorem dp_sp {k : Nat} : ∀ (j : Nat) (d : D), isSp k j d = true → dp d ≤ 2 * j
  | 0, d, h => by cases h
  | j + 1, d, h => by
    simp only [isSp] at h
    cases hn : nodeOk k d with
    | none => rw [hn] at h; cases h
    | some cs =>
    rw [hn] at h
    obtain ⟨hd, ds, rfl, hh⟩ := nodeOk_some hn
    have hhd : dp hd ≤ 0 := by
      rcases hh with ⟨h1, _⟩ | ⟨_, h2, _⟩
      · rw [isSt_eq h1]; simp [dp, pyR, PyData.depth]
      · rcases Bool.or_eq_true _ _ |>.mp h2 with h2 | h2
        · rw [isSt_eq h2]; simp [dp, pyR, PyData.depth]
        · rw [isSt_eq h2]; simp [dp, pyR, PyData.depth]
    have hin : dp (.tup ds) ≤ 2 * j + 1 := by
      rcases hh with ⟨h1, h2, rfl⟩ | ⟨h1, h2, h3, h4, rfl⟩
      · obtain ⟨e1, e2⟩ := nums_ints h2
        rw [e1]
        refine Nat.le_trans (dp_tup (k := 0) fun d hd => ?_) (by omega)
        obtain ⟨i, _, rfl⟩ := List.mem_map.mp hd
        simp [dp, pyR, PyData.depth]
      · exact dp_tup fun d hd => dp_sp j d (List.all_eq_true.mp h d hd)
    exact dp_tup (k := 2 * j + 1) fun d hd' => by
      simp only [List.mem_cons, List.not_mem_nil, or_false] at hd'
      rcases hd' with rfl | rfl
      · omega
      · exact hin
/-- how great a speed of the shafts so far may be -/
def grt : Nat → Nat
  | 0 => 1
  | n + 1 => 3 * grt n + 500
theorem grt_mono : ∀ n : Nat, grt n ≤ grt (n + 1) := fun n => by simp only [grt]; omega
def wtDn : Dn → Nat
  | none => 0
  | some q => wt q.2
theorem look_wt {f : Fnd} {b : Nat} (h : ∀ q ∈ f, wtDn q.2 ≤ b) (n : Str) : wtDn (lookF f n) ≤ b := by
  unfold lookF
  cases e : f.find? fun q => decide (q.1 = n) with
  | none => simp [wtDn]
  | some q => exact h q (List.mem_of_find?_eq_some e)
theorem br_wt {ws nm : List Str} {f : Fnd} {b : Nat} (F : okF ws nm f) (h : ∀ q ∈ f, wtDn q.2 ≤ b) {l : Lnk} {q : Int × D} (e : brF ws f l = some q) : wt q.2 ≤ b := by
  unfold brF at e
  have hw := look_wt h l.n
  have ho := look_ok F.o l.n
  cases hk : lookF f l.n with
  | none => rw [hk] at e; cases e
  | some p =>
    rw [hk] at e hw ho
    cases e
    have := wt_times (k := ws.length) (ps := ratioF ws l.a l.b) (ratio_len ws _ _) 8 nm.length p.2 F.l ho.2.1
    show wt (timesD (ratioF ws l.a l.b) 8 p.2) ≤ b
    rw [this]
    exact hw
theorem step_wt {ws nm : List Str} {f : Fnd} {s : Sft} {n : Nat} (w5 : ws.length ≤ 5) (F : okF ws nm f) (hS : okSf ws nm s) (h : ∀ q ∈ f, wtDn q.2 ≤ grt n) : wtDn (stepF ws f s) ≤ grt (n + 1) := by
  unfold stepF
  have hb : ∀ q ∈ s.ls.filterMap (brF ws f), wt q.2 ≤ grt n := fun q hq => by
    obtain ⟨l, _, e⟩ := so_mem hq
    exact br_wt F h e
  by_cases c1 : s.m = "hand"
  · rw [if_pos c1]
    have ez : wt (zeroP ws) ≤ 400 := by
      unfold zeroP
      simp only [wt, wts]
      rw [wts_ints, List.length_map]
      have : (Str.ofString "product").length = 7 := by decide +kernel
      omega
    show wt (zeroP ws) ≤ _
    simp only [grt]
    omega
  · rw [if_neg c1]
    by_cases c2 : s.m = "fixed"
    · rw [if_pos c2]
      cases e : s.ls.filterMap (brF ws f) with
      | nil => simp [wtDn]
      | cons q r =>
        have := hb q (by rw [e]; simp)
        have := grt_mono n
        show wt q.2 ≤ _
        omega
    · rw [if_neg c2]
      dsimp only
      split
      · simp [wtDn]
      · have hns : nm ≠ [] := fun e => c1 (hS.h e).1
        obtain ⟨k1, _⟩ | ⟨_, _, _, k4⟩ := hS.o hns
        · exact absurd k1 c2
        have hw := wts_le (b := grt n) (ds := ((s.ls.filterMap (brF ws f)).filter fun q => decide (q.1 = s.w)).map (·.2)) fun d hd => by
          obtain ⟨q, hq, rfl⟩ := List.mem_map.mp hd
          exact hb q (List.mem_filter.mp hq).1
        have hlen : (((s.ls.filterMap (brF ws f)).filter fun q => decide (q.1 = s.w)).map (·.2)).length ≤ 3 := by
          rw [List.length_map]
          exact Nat.le_trans (List.length_filter_le _ _) (Nat.le_trans (List.length_filterMap_le _ _) k4)
        have hm := Nat.mul_le_mul_right (grt n) hlen
        have hx : wt (D.str (if s.m = "fast" then "greatest" else "least")) ≤ 20 := by
          split <;> decide +kernel
        show wt (.tup [.str (if s.m = "fast" then "greatest" else "least"), .tup _]) ≤ _
        simp only [wt, wts, grt] at hx ⊢
        omega
theorem turn_wt {ws : List Str} (w5 : ws.length ≤ 5) : ∀ (sh : List Sft) (nm : List Str) (f : Fnd) (n : Nat), okF ws nm f → okT ws nm sh → nm.length + sh.length ≤ 8 → (∀ q ∈ f, wtDn q.2 ≤ grt n) → ∀ q ∈ turnF ws sh f, wtDn q.2 ≤ grt (n + sh.length)
  | [], _, _, _, _, _, _, h => h
  | s :: r, nm, f, n, F, hT, h8, h => by
    rw [List.length_cons] at h8
    have := turn_wt w5 r (nm ++ [s.n]) (f ++ [(s.n, stepF ws f s)]) (n + 1) (F.next hT.1 (by omega)) hT.2 (by rw [List.length_append, List.length_singleton]; omega) fun q hq => by
      rcases List.mem_append.mp hq with hq | hq
      · exact Nat.le_trans (h q hq) (grt_mono n)
      · rw [List.mem_singleton.mp hq]
        exact step_wt w5 F hT.1 h
    rw [List.length_cons, show n + (r.length + 1) = n + 1 + r.length by omega]
    exact this
end KT
namespace VL
open PySem L2
section
variable {X : Cx} {B : Bs} {W : WX} {a b c : Expr} {es : List Expr} {ma mb mc : M D} {mes : M (List D)} {p pos : Pos}
/-- the value of e, a list that may change: it becomes data -/
def mFzL (m : M D) : M D := fun s Q E => m s (fun d s1 => match d with
  | .loc i => ∃ ds, s1.n.h[i]? = some (.l ds) ∧ Q (.lst ds) ⟨s1.e, ⟨s1.n.n, s1.n.h.set i .x⟩⟩
  | _ => False) E
theorem pm_fzL (ha : PM X B W a ma) : PM X B W a (mFzL ma) := by
  refine impE ha fun σ H Q h => ?_
  obtain ⟨g, s, Qd, E, R, hm, hk, hx⟩ := h
  refine ⟨g, s, _, E, R, hm, fun g1 s1 H1 x d1 x1 R1 dx q1 => ?_, hx⟩
  cases d1 <;> first | exact (show False from q1).elim | skip
  obtain ⟨ds, hj, q⟩ := q1
  obtain ⟨g2, gx, dl, R2⟩ := R1.frzL hj dx
  exact hk g2 _ H1 x _ (x1.trans gx) R2 dl q
end
end VL
namespace VL
open PySem PySem.Spec PyProof.Rows L2
end VL
namespace VL
open PySem L2
end VL
namespace VL
open PySem PySem.Spec PyProof.Rows L2
def pairK : D → Option (Key × D)
  | .tup [k, v] => (dKey k).map fun z => (z, v)
  | _ => none
def pairsK : List D → Option (List (Key × D))
  | [] => some []
  | d :: r => match pairK d, pairsK r with
    | some q, some qs => some (q :: qs)
    | _, _ => none
def mergeKD (ks more : List (Key × D)) : List (Key × D) := more.foldl (fun acc kv => putKD acc kv.1 kv.2) ks
def mDctP (m : M (List D)) : M D := fun s Q E => m s (fun ds s' => ∃ ps qs, ds = [.lst ps] ∧ pairsK ps = some qs ∧ Q (.loc s'.n.h.length) ⟨s'.e, ⟨s'.n.n, s'.n.h ++ [.k (mergeKD [] qs)]⟩⟩) E
section
variable {K : PySem.W.Frag} {g : Gh}
theorem pairK_some {d : D} {q : Key × D} (h : pairK d = some q) : ∃ k, d = .tup [k, q.2] ∧ dKey k = some q.1 := by
  unfold pairK at h
  split at h
  · rename_i k v
    cases e : dKey k with
    | none => rw [e] at h; cases h
    | some z => rw [e] at h; cases h; exact ⟨k, rfl, e⟩
  · cases h
theorem pairs_V {H : Hp} (sub : Same g.G H) : ∀ {ps : List D} {qs : List (Key × D)} {us : List V}, pairsK ps = some qs → DVs K g ps us → ∃ as kvs, us = as.map V.ref ∧ Paired (fun p kv => SqT K H p [kV kv.1, kv.2]) as kvs ∧ DVk K g qs kvs
  | [], qs, us, h, dv => by
    cases h
    simp only [DVs] at dv
    subst dv
    exact ⟨[], [], rfl, .nil, by simp only [DVk]⟩
  | d :: r, qs, us, h, dv => by
    unfold pairsK at h
    split at h
    · rename_i q qs' e1 e2
      cases h
      simp only [DVs] at dv
      obtain ⟨u, us', rfl, dv1, dv2⟩ := dv
      obtain ⟨k, rfl, ek⟩ := pairK_some e1
      obtain ⟨as, kvs, rfl, hp, hk⟩ := pairs_V sub e2 dv2
      obtain ⟨a, vs, rfl, s1, dvs⟩ := dv1.of_t
      simp only [DVs] at dvs
      obtain ⟨x, t, rfl, dx, y, t', rfl, dy, rfl⟩ := dvs
      have ex := dKey_V ek dx
      subst ex
      exact ⟨a :: as, (q.1, y) :: kvs, rfl, .cons (sameT sub s1) hp, by
        obtain ⟨q1, q2⟩ := q
        simp only [DVk]
        exact ⟨y, kvs, rfl, dy, hk⟩⟩
    · cases h
theorem merge_V : ∀ {qs : List (Key × D)} {kvs : List (Key × V)} {ks : List (Key × D)} {ws : List (Key × V)}, DVk K g qs kvs → DVk K g ks ws → DVk K g (mergeKD ks qs) (mergeK ws kvs)
  | [], kvs, ks, ws, h, hk => by
    simp only [DVk] at h
    subst h
    exact hk
  | (k, d) :: r, kvs, ks, ws, h, hk => by
    simp only [DVk] at h
    obtain ⟨v, r', rfl, dv, h⟩ := h
    exact merge_V (qs := r) (kvs := r') (ks := putKD ks k d) (ws := putK ws k v) h (hk.put dv)
end
section
variable {X : Cx} {B : Bs} {W : WX} {a : Expr} {ma : M D} {p pos : Pos}
theorem pm_dctP (hc : X.calm = true) (hm : X.mg "dict" = none) (ha : PM X B W a ma) (hg : Gl X "dict" := by rfl) (hs : starEach [a] X.env = [(false, eval a X.env)] := by rfl) : PM X B W (.Call (.Name "dict" p) [a] [] pos) (mDctP (mCons ma mNil)) := by
  refine impE (pe_callTy (call_dictP hc) hg hm (by decide +kernel) (pma_cons ha pma_nil hs) (by decide) (by decide) hs) fun σ H Q h => ?_
  obtain ⟨g, s, Qd, E, R, hm, hk, hx⟩ := h
  refine ⟨g, s, _, E, R, hm, fun g1 s1 H1 vs dd x1 R1 dv q1 => ?_, hx⟩
  obtain ⟨ps, qs, rfl, e, q⟩ := q1
  obtain ⟨v, rfl, h1⟩ := dv.one
  obtain ⟨l, us, rfl, el, du⟩ := h1.of_l
  obtain ⟨as, kvs, rfl, hp, hkv⟩ := pairs_V R1.gh.sub e du
  refine ⟨l, as, kvs, rfl, SqL.of (R1.gh.sub _ _ el), hp, fun q' hq' => ?_⟩
  obtain ⟨R2, dl⟩ := R1.addL (c := .k (mergeKD [] qs)) (o := .dK (mergeK [] kvs)) hq' (show DVk X.K g1 _ _ from merge_V hkv (by simp only [DVk]))
  exact hk _ _ _ _ _ (x1.trans Gx.addL) R2 dl q
end
end VL
namespace VL
open PySem PySem.Spec PyProof.Rows L2
def listZD (ds : List D) (Q : D → Prop) : Prop := match ds with
  | [x, y] => ∃ t u xs ys, seqD x = some (t, xs) ∧ seqD y = some (u, ys) ∧ Q (.lst (pairs xs ys))
  | _ => False
theorem merge_nodup : ∀ (qs ks : List (Key × D)), ((ks ++ qs).map (·.1)).Nodup → mergeKD ks qs = ks ++ qs
  | [], ks, _ => by rw [List.append_nil]; rfl
  | q :: r, ks, h => by
    have e : putKD ks q.1 q.2 = ks ++ [q] := by
      unfold putKD
      rw [if_neg]
      intro hc
      obtain ⟨z, hz, he⟩ := List.any_eq_true.mp hc
      rw [List.map_append, List.nodup_append] at h
      exact h.2.2 z.1 (List.mem_map_of_mem hz) q.1 (by simp) (of_decide_eq_true he)
    show mergeKD (putKD ks q.1 q.2) r = _
    rw [e, merge_nodup r (ks ++ [q]) (by rw [List.append_assoc]; exact h), List.append_assoc]
    rfl
theorem getK_map {α : Type} {f : α → D} {n : Str} : ∀ xs : List (Str × α), getK (xs.map fun q => ((.inr q.1 : Key), f q.2)) (.inr n) = (xs.find? fun q => decide (q.1 = n)).map fun q => f q.2
  | [] => rfl
  | q :: r => by
    have ih := getK_map (f := f) (n := n) r
    unfold getK at ih ⊢
    rw [List.map_cons, List.find?_cons, List.find?_cons]
    by_cases e : q.1 = n
    · simp [e]
    · have e' : ¬ ((Sum.inr q.1 : Key) = Sum.inr n) := fun z => e (Sum.inr.inj z)
      simp only [decide_eq_false e, decide_eq_false e']
      exact ih
theorem pairsK_zip : ∀ (ws : List Str) (ns : List Int), pairsK (pairs (ws.map .str) (ns.map .int)) = some ((ws.zip ns).map fun q => (.inr q.1, .int q.2))
  | [], _ => rfl
  | _ :: _, [] => rfl
  | w :: ws, n :: ns => by
    have ih := pairsK_zip ws ns
    show pairsK (.tup [.str w, .int n] :: pairs (ws.map .str) (ns.map .int)) = _
    unfold pairsK
    rw [ih]
    rfl
end VL
namespace VL
open PySem PySem.Spec PyProof.Rows L2
theorem zl_no_len : typeLookup (.type "zip") "__len__" = pure none := by rw [typeLookup_type, builtinLookup_eq_fast]; kernel_rfl
theorem zl_no_hint : typeLookup (.type "zip") "__length_hint__" = pure none := by rw [typeLookup_type, builtinLookup_eq_fast]; kernel_rfl
section
variable {prog : Program} {w : World} {A : Around} {E : Value → Shared → Prop} {s : Shared} {z TI TO i1 i2 : Addr} {fp1 fp2 : List Addr} {n1 n2 i : Nat} {P1 P2 : Nat → Value → Prop} {St1 St2 : Nat → Heap → Prop}
theorem zlh_item {T : Addr} {f : Bool} {oT : Obj} {Q : Value → Shared → Prop} (S : ZipSep2 z TI TO i1 i2 fp1 fp2) (D1 : Draws prog w A i1 fp1 n1 P1 St1) (D2 : Draws prog w A i2 fp2 n2 P2 St2)
    (hz : IsZipHeld s.heap z TI TO T f) (hT : s.heap.get? T = some oT) (hTI : IsTupOf2 s.heap TI (.ref i1) (.ref i2)) (st1 : St1 i s.heap) (st2 : St2 i s.heap) (hlt1 : i < n1) (hlt2 : i < n2)
    (hQ : ∀ x1 x2 h' tk, P1 i x1 → P2 i x2 → IsZipHeld h' z TI TO T true → St1 (i + 1) h' → St2 (i + 1) h' → IsTupOf2 h' s.heap.objs.size x1 x2 → h'.objs.size = s.heap.objs.size + 1 →
      (∀ c o, c ≠ z → c ≠ i1 → c ≠ i2 → s.heap.get? c = some o → h'.get? c = some o) → Q (.ref s.heap.objs.size) { s with heap := h', toks := tk }) :
    wpAny (model prog w) A (Builtin.«zip.__next__» ⟨[.ref z], []⟩) (fun fin s' => ∃ v, fin = .done (.ret v) ∧ Q v s') E s := by
  obtain ⟨hp, g, d, tk0, os⟩ := s
  show wpAny _ _ (field (.ref z) 2 >>= _) _ _ _
  refine wpAny_bind (wpAny_field hz rfl (x := .bool false) rfl ?_)
  show wpAny _ _ (field (.ref z) 3 >>= _) _ _ _
  refine wpAny_bind (wpAny_field hz rfl (x := .ref TI) rfl ?_)
  refine wpAny_bind (wpAny_seqItems hTI rfl ?_)
  show wpAny _ _ (Builtin.SmallTypes.ownedTupleIsFree (.ref z) >>= _) _ _ _
  refine wpAny_bind (wpAny_tupleHeld_zip hz hT fun h₁ hz₁ hs₁ => ?_)
  replace hs₁ : Heap.SameBut z hp h₁ := hs₁
  simp only [Bool.false_eq_true, if_false]
  refine wpAny_bind ?_
  rw [← Array.forIn_toList]
  simp only [List.forIn_cons, List.forIn_nil]
  refine wpAny_bind (wpAny_bind (wpAny_holding ?_))
  show wpAny _ _ (Builtin.SmallTypes.nextOf (.ref i1) >>= _) _ _ ⟨h₁, g, d, tk0, os⟩
  refine wpAny_bind (D1.item i _ _ _ hlt1 (D1.over st1 hs₁ S.zf1) fun x1 p1 tk1 hx1 sn1 hp1 => wpAny_pure ?_)
  replace hp1 : Heap.SameBut i1 h₁ p1 := hp1
  refine wpAny_pure ?_
  refine wpAny_bind (wpAny_bind (wpAny_holding ?_))
  show wpAny _ _ (Builtin.SmallTypes.nextOf (.ref i2) >>= _) _ _ ⟨p1, g, d, tk1, os⟩
  refine wpAny_bind (D2.item i _ _ _ hlt2 (D2.over (D2.over st2 hs₁ S.zf2) hp1 S.sep1_2) fun x2 p2 tk2 hx2 sn2 hp2 => wpAny_pure ?_)
  replace hp2 : Heap.SameBut i2 p1 p2 := hp2
  refine wpAny_pure (wpAny_pure ?_)
  show wpAny _ _ (newTuple [x1, x2] >>= _) _ _ ⟨p2, g, d, tk2, os⟩
  refine wpAny_bind (wpAny_newTuple ?_)
  have hsz : p2.objs.size = hp.objs.size := by rw [hp2.1, hp1.1, hs₁.1]
  have hz₃ : IsZipHeld p2 z TI TO T true := hp2.extBut _ _ S.zi2 (hp1.extBut _ _ S.zi1 hz₁)
  have hk : ∀ c o, c ≠ z → c ≠ i1 → c ≠ i2 → hp.get? c = some o → p2.get? c = some o := fun c o c1 c2 c3 e => hp2.extBut _ _ c3 (hp1.extBut _ _ c2 (hs₁.extBut _ _ c1 e))
  have hj1 : St1 (i + 1) p2 := D1.over sn1 hp2 S.sep2_1
  refine wpAny_pure ⟨_, rfl, ?_⟩
  show Q (.ref p2.objs.size) ⟨p2.push { cls := .type "tuple", data := .seq #[x1, x2] }, g, d, tk2, os⟩
  have hp' : IsTupOf2 (p2.push { cls := .type "tuple", data := .seq #[x1, x2] }) p2.objs.size x1 x2 := Heap.get?_push_size _ rfl
  have hz4 : (p2.push { cls := .type "tuple", data := .seq #[x1, x2] }).objs.size = p2.objs.size + 1 := Heap.size_push ..
  rw [hsz] at hp' hz4 ⊢
  exact hQ x1 x2 _ tk2 hx1 hx2 (Heap.get?_push_of_some _ hz₃) (D1.frame _ _ _ hj1 fun b _ o e => Heap.get?_push_of_some _ e) (D2.frame _ _ _ sn2 fun b _ o e => Heap.get?_push_of_some _ e) hp' hz4 fun c o c1 c2 c3 e => Heap.get?_push_of_some _ (hk c o c1 c2 c3 e)
theorem zlh_end {T : Addr} {f : Bool} {oT : Obj} {Q : Fin → Shared → Prop} (S : ZipSep2 z TI TO i1 i2 fp1 fp2) (D1 : Draws prog w A i1 fp1 n1 P1 St1) (D2 : Draws prog w A i2 fp2 n2 P2 St2)
    (hz : IsZipHeld s.heap z TI TO T f) (hT : s.heap.get? T = some oT) (hTI : IsTupOf2 s.heap TI (.ref i1) (.ref i2)) (st1 : St1 i s.heap) (st2 : St2 i s.heap) (hle1 : i ≤ n1) (hle2 : i ≤ n2) (hend : i = n1 ∨ i = n2)
    (hE : ∀ h' tk e, (∀ c o, c ≠ z → c ≠ i1 → c ≠ i2 → s.heap.get? c = some o → h'.get? c = some o) → (∃ o, h'.get? e = some o ∧ o.cls = .type "StopIteration") → E (.ref e) { s with heap := h', toks := tk }) :
    wpAny (model prog w) A (Builtin.«zip.__next__» ⟨[.ref z], []⟩) Q E s := by
  obtain ⟨hp, g, d, tk0, os⟩ := s
  show wpAny _ _ (field (.ref z) 2 >>= _) _ _ _
  refine wpAny_bind (wpAny_field hz rfl (x := .bool false) rfl ?_)
  show wpAny _ _ (field (.ref z) 3 >>= _) _ _ _
  refine wpAny_bind (wpAny_field hz rfl (x := .ref TI) rfl ?_)
  refine wpAny_bind (wpAny_seqItems hTI rfl ?_)
  show wpAny _ _ (Builtin.SmallTypes.ownedTupleIsFree (.ref z) >>= _) _ _ _
  refine wpAny_bind (wpAny_tupleHeld_zip hz hT fun h₁ hz₁ hs₁ => ?_)
  replace hs₁ : Heap.SameBut z hp h₁ := hs₁
  simp only [Bool.false_eq_true, if_false]
  refine wpAny_bind ?_
  rw [← Array.forIn_toList]
  simp only [List.forIn_cons, List.forIn_nil]
  refine wpAny_bind (wpAny_bind (wpAny_holding ?_))
  show wpAny _ _ (Builtin.SmallTypes.nextOf (.ref i1) >>= _) _ _ ⟨h₁, g, d, tk0, os⟩
  by_cases hlt1 : i < n1
  · refine wpAny_bind (D1.item i _ _ _ hlt1 (D1.over st1 hs₁ S.zf1) fun x1 p1 tk1 hx1 sn1 hp1 => wpAny_pure ?_)
    replace hp1 : Heap.SameBut i1 h₁ p1 := hp1
    refine wpAny_pure ?_
    have hi2 : i = n2 := by omega
    refine wpAny_bind (wpAny_bind (wpAny_holding ?_))
    show wpAny _ _ (Builtin.SmallTypes.nextOf (.ref i2) >>= _) _ _ ⟨p1, g, d, tk1, os⟩
    refine wpAny_bind (D2.done ⟨p1, g, d, tk1, os⟩ _ _ (by rw [← hi2]; exact D2.over (D2.over st2 hs₁ S.zf2) hp1 S.sep1_2) fun q e hq he => ?_)
    exact hE q tk1 e (fun c o cz c1 c2 x => hq _ _ c2 (hp1.extBut _ _ c1 (hs₁.extBut _ _ cz x))) he
  · have hi1 : i = n1 := by omega
    refine wpAny_bind (D1.done ⟨h₁, g, d, tk0, os⟩ _ _ (by rw [← hi1]; exact D1.over st1 hs₁ S.zf1) fun q e hq he => ?_)
    exact hE q tk0 e (fun c o cz c1 _ x => hq _ _ c1 (hs₁.extBut _ _ cz x)) he
theorem zlh_next_item {T : Addr} {f : Bool} {oT : Obj} {Q : Option Value → Shared → Prop} (S : ZipSep2 z TI TO i1 i2 fp1 fp2) (D1 : Draws prog w A.in1 i1 fp1 n1 P1 St1) (D2 : Draws prog w A.in1 i2 fp2 n2 P2 St2)
    (hz : IsZipHeld s.heap z TI TO T f) (hT : s.heap.get? T = some oT) (hTI : IsTupOf2 s.heap TI (.ref i1) (.ref i2)) (st1 : St1 i s.heap) (st2 : St2 i s.heap) (hlt1 : i < n1) (hlt2 : i < n2)
    (hQ : ∀ x1 x2 h' tk, P1 i x1 → P2 i x2 → IsZipHeld h' z TI TO T true → St1 (i + 1) h' → St2 (i + 1) h' → IsTupOf2 h' s.heap.objs.size x1 x2 → h'.objs.size = s.heap.objs.size + 1 →
      (∀ c o, c ≠ z → c ≠ i1 → c ≠ i2 → s.heap.get? c = some o → h'.get? c = some o) → Q (some (.ref s.heap.objs.size)) { s with heap := h', toks := tk }) :
    wpAny (model prog w) A (pyNext (.ref z)) Q E s := by
  have hTy : s.TypeIs (.ref z) "zip" := ⟨_, hz, rfl⟩
  unfold pyNext
  exact wpAny_bind (wpAny_attempt (wpAny_callSpecial?_slot (name := Str.ofString "__next__") hTy F.slot_zip_next
    (wpAny_call_entry F.slot_zip_next hTy F.entry_zip_next
      (zlh_item S D1 D2 hz hT hTI st1 st2 hlt1 hlt2 fun x1 x2 h' tk a1 a2 a3 a4 a5 a6 a7 a8 => wpAny_pure (hQ x1 x2 h' tk a1 a2 a3 a4 a5 a6 a7 a8)) (F.args_zip_next_1 _))))
theorem zlh_next_end {T : Addr} {f : Bool} {oT : Obj} {Q : Option Value → Shared → Prop} (S : ZipSep2 z TI TO i1 i2 fp1 fp2) (D1 : Draws prog w A.in1 i1 fp1 n1 P1 St1) (D2 : Draws prog w A.in1 i2 fp2 n2 P2 St2)
    (hz : IsZipHeld s.heap z TI TO T f) (hT : s.heap.get? T = some oT) (hTI : IsTupOf2 s.heap TI (.ref i1) (.ref i2)) (st1 : St1 i s.heap) (st2 : St2 i s.heap) (hle1 : i ≤ n1) (hle2 : i ≤ n2) (hend : i = n1 ∨ i = n2)
    (hQ : ∀ h' tk, (∀ c o, c ≠ z → c ≠ i1 → c ≠ i2 → s.heap.get? c = some o → h'.get? c = some o) → Q none { s with heap := h', toks := tk }) :
    wpAny (model prog w) A (pyNext (.ref z)) Q E s := by
  have hTy : s.TypeIs (.ref z) "zip" := ⟨_, hz, rfl⟩
  unfold pyNext
  refine wpAny_bind (wpAny_attempt (wpAny_callSpecial?_slot (name := Str.ofString "__next__") hTy F.slot_zip_next
    (wpAny_call_entry F.slot_zip_next hTy F.entry_zip_next (zlh_end S D1 D2 hz hT hTI st1 st2 hle1 hle2 hend fun h' tk e hk he => ?_) (F.args_zip_next_1 _))))
  obtain ⟨o, ho, hc⟩ := he
  refine wpAny_bind (wpAny_isInstance (T := "StopIteration") (b := true) ⟨o, ho, hc⟩ isSubtype_stop ?_)
  exact wpAny_pure (hQ _ _ hk)
end
/-- the pairs told so far -/
def LPs (h : Heap) (its its2 : Array Value) (ps : List Addr) : Prop := ∀ (j : Nat) (p : Addr), ps[j]? = some p → ∃ x y, its[j]? = some x ∧ its2[j]? = some y ∧ IsTupOf2 h p x y
structure ZSt (t u : Bool) (z TI TO i1 i2 a b : Addr) (its its2 : Array Value) (h0 h : Heap) (i : Nat) (ps : List Addr) : Prop where
  it1 : itQ t h i1 a i
  it2 : itQ u h i2 b i
  l1 : isQ t h a its
  l2 : isQ u h b its2
  tI : IsTupOf2 h TI (.ref i1) (.ref i2)
  ph : (ps = [] ∧ IsZip h z TI TO .none ∧ ∃ x y, IsTupOf2 h TO x y) ∨ (∃ T ∈ ps, ∃ f, IsZipHeld h z TI TO T f)
  len : ps.length = i
  nod : ps.Nodup
  tup : LPs h its its2 ps
  ab : ∀ p ∈ ps, h0.objs.size < p
  keep : ∀ c o, c ≠ z → c ≠ TO → c ≠ i1 → c ≠ i2 → h0.get? c = some o → h.get? c = some o
theorem isQ_at {t : Bool} {h h' : Heap} {l : Addr} {its : Array Value} (x : isQ t h l its) (k : ∀ o, h.get? l = some o → h'.get? l = some o) : isQ t h' l its := by
  cases t
  · exact Heap.IsList.at x k
  · obtain ⟨o, h1, r⟩ := (show h.IsTuple l its from x)
    exact ⟨o, k _ h1, r⟩
section
variable {t u : Bool} {z TI TO i1 i2 a b : Addr} {its its2 : Array Value} {h0 h h' : Heap} {i : Nat} {ps : List Addr}
/-- only the list itself was changed -/
theorem ZSt.but {L : Addr} (x : ZSt t u z TI TO i1 i2 a b its its2 h0 h i ps) (hL : L = h0.objs.size) (lt : ∀ c, c = z ∨ c = TI ∨ c = TO ∨ c = i1 ∨ c = i2 ∨ c = a ∨ c = b → c < L) (k : ∀ c o, c ≠ L → h.get? c = some o → h'.get? c = some o) : ZSt t u z TI TO i1 i2 a b its its2 h0 h' i ps where
  it1 := itQ_at x.it1 fun o e => k _ o (Nat.ne_of_lt (lt _ (by simp))) e
  it2 := itQ_at x.it2 fun o e => k _ o (Nat.ne_of_lt (lt _ (by simp))) e
  l1 := isQ_at x.l1 fun o e => k _ o (Nat.ne_of_lt (lt _ (by simp))) e
  l2 := isQ_at x.l2 fun o e => k _ o (Nat.ne_of_lt (lt _ (by simp))) e
  tI := k _ _ (Nat.ne_of_lt (lt _ (by simp))) x.tI
  ph := by
    rcases x.ph with ⟨e, h1, x', y', h2⟩ | ⟨T, hT, f, h1⟩
    · exact .inl ⟨e, k _ _ (Nat.ne_of_lt (lt _ (by simp))) h1, x', y', k _ _ (Nat.ne_of_lt (lt _ (by simp))) h2⟩
    · exact .inr ⟨T, hT, f, k _ _ (Nat.ne_of_lt (lt _ (by simp))) h1⟩
  len := x.len
  nod := x.nod
  tup := fun j p e => by
    obtain ⟨v, w, e1, e2, e3⟩ := x.tup j p e
    exact ⟨v, w, e1, e2, k _ _ (Nat.ne_of_gt (by rw [hL]; exact x.ab p (List.mem_of_getElem? e))) e3⟩
  ab := x.ab
  keep := fun c o h1 h2 h3 h4 e => k _ _ (Nat.ne_of_lt (by rw [hL]; exact Heap.lt_size e)) (x.keep c o h1 h2 h3 h4 e)
/-- a turn -/
theorem ZSt.turn {x y : Value} (X : ZSt t u z TI TO i1 i2 a b its its2 h0 h i ps) (lt : ∀ c, c = z ∨ c = TI ∨ c = TO ∨ c = i1 ∨ c = i2 ∨ c = a ∨ c = b → c < h0.objs.size) (hsz : h0.objs.size < h.objs.size)
    (na : a ≠ z ∧ a ≠ TO ∧ a ≠ i1 ∧ a ≠ i2) (nb : b ≠ z ∧ b ≠ TO ∧ b ≠ i1 ∧ b ≠ i2) (nT : TI ≠ z ∧ TI ≠ TO ∧ TI ≠ i1 ∧ TI ≠ i2)
    (k1 : its[i]? = some x) (k2 : its2[i]? = some y) (f : Bool) (T : Addr) (hT : T ∈ ps ++ [h.objs.size]) (hz : IsZipHeld h' z TI TO T f) (s1 : itQ t h' i1 a (i + 1)) (s2 : itQ u h' i2 b (i + 1)) (hp : IsTupOf2 h' h.objs.size x y)
    (k : ∀ c o, c ≠ z → c ≠ TO → c ≠ i1 → c ≠ i2 → h.get? c = some o → h'.get? c = some o) : ZSt t u z TI TO i1 i2 a b its its2 h0 h' (i + 1) (ps ++ [h.objs.size]) where
  it1 := s1
  it2 := s2
  l1 := isQ_at X.l1 fun o e => k _ o na.1 na.2.1 na.2.2.1 na.2.2.2 e
  l2 := isQ_at X.l2 fun o e => k _ o nb.1 nb.2.1 nb.2.2.1 nb.2.2.2 e
  tI := k _ _ nT.1 nT.2.1 nT.2.2.1 nT.2.2.2 X.tI
  ph := .inr ⟨T, hT, f, hz⟩
  len := by rw [List.length_append, X.len]; rfl
  nod := by
    rw [List.nodup_append]
    refine ⟨X.nod, by simp, fun p hp q hq e => ?_⟩
    rw [List.mem_singleton] at hq
    obtain ⟨j, hj⟩ := List.getElem?_of_mem hp
    obtain ⟨_, _, _, _, e3⟩ := X.tup j p hj
    exact absurd (Heap.lt_size e3) (by rw [e, hq]; exact Nat.lt_irrefl _)
  tup := fun j p e => by
    rw [List.getElem?_append] at e
    split at e
    · obtain ⟨v, w, e1, e2, e3⟩ := X.tup j p e
      have hgt := X.ab p (List.mem_of_getElem? e)
      have ne : ∀ c, c = z ∨ c = TI ∨ c = TO ∨ c = i1 ∨ c = i2 ∨ c = a ∨ c = b → p ≠ c := fun c hc => Nat.ne_of_gt (Nat.lt_trans (lt c hc) hgt)
      exact ⟨v, w, e1, e2, k _ _ (ne _ (by simp)) (ne _ (by simp)) (ne _ (by simp)) (ne _ (by simp)) e3⟩
    · rename_i hj
      rw [X.len] at hj e
      have hj' : j = i := by
        have := (List.getElem?_eq_some_iff.mp e).1
        simp at this
        omega
      subst hj'
      simp at e
      subst e
      exact ⟨x, y, k1, k2, hp⟩
  ab := fun p hp => by
    rcases List.mem_append.mp hp with hp | hp
    · exact X.ab p hp
    · rw [List.mem_singleton.mp hp]; exact hsz
  keep := fun c o h1 h2 h3 h4 e => k _ _ h1 h2 h3 h4 (X.keep c o h1 h2 h3 h4 e)
end
section
variable {prog : Program} {w : World} {A : Around} {E : Value → Shared → Prop} {t u : Bool} {z TI TO i1 i2 a b : Addr} {its its2 : Array Value} {h0 : Heap} {R : Result → Shared → Prop}
theorem zl_loop (hh : A.handled = none) (S : ZipSep2 z TI TO i1 i2 [i1, a] [i2, b]) (na : a ≠ i1) (nb : b ≠ i2) {n : Nat} (hn : n = min its.size its2.size) (hsz : n ≤ sizeLine) (lt : ∀ c, c = z ∨ c = TI ∨ c = TO ∨ c = i1 ∨ c = i2 ∨ c = a ∨ c = b → c < h0.objs.size) (res : Value) :
    ∀ (k i : Nat) (s : Shared) (acc : Array Value) (c : Nat) (ps : List Addr), n - i = k → i ≤ n → ZSt t u z TI TO i1 i2 a b its its2 h0 s.heap i ps → s.heap.get? h0.objs.size = some { cls := .type "list", dict := none, data := .seq acc c, slots := #[] } → acc.toList = ps.map Value.ref →
    (∀ h' tk acc' c' ps', ps'.length = n → ps'.Nodup → LPs h' its its2 ps' → (∀ p ∈ ps', h0.objs.size < p) → (∀ c o, c ≠ z → c ≠ TO → c ≠ i1 → c ≠ i2 → h0.get? c = some o → h'.get? c = some o) → h'.get? h0.objs.size = some { cls := .type "list", dict := none, data := .seq acc' c', slots := #[] } → acc'.toList = ps'.map Value.ref → R (.ok (.ret res)) { s with heap := h', toks := tk }) →
    codeAny (model prog w) A (.builtin "list.extend.loop" ⟨[.ref h0.objs.size, .ref z, res], []⟩) R s := by
  have hb : ∀ c, c = z ∨ c = TI ∨ c = TO ∨ c = i1 ∨ c = i2 ∨ c = a ∨ c = b → h0.objs.size ≠ c := fun c hc => Nat.ne_of_gt (lt c hc)
  have aS : a ≠ z ∧ a ≠ TO ∧ a ≠ i1 ∧ a ≠ i2 := ⟨fun e => S.zf1 (by simp [e]), fun e => S.Tf1 (by simp [e]), na, fun e => S.sep2_1 (by simp [e])⟩
  have bS : b ≠ z ∧ b ≠ TO ∧ b ≠ i1 ∧ b ≠ i2 := ⟨fun e => S.zf2 (by simp [e]), fun e => S.Tf2 (by simp [e]), fun e => S.sep1_2 (by simp [e]), nb⟩
  have TS : TI ≠ z ∧ TI ≠ TO ∧ TI ≠ i1 ∧ TI ≠ i2 := ⟨S.TIz, S.TITO, S.TIi1, S.TIi2⟩
  have D1 := drawsQ (prog := prog) (w := w) (A := A.in1.in1) t hh i1 a na its
  have D2 := drawsQ (prog := prog) (w := w) (A := A.in1.in1) u hh i2 b nb its2
  intro k
  induction k with
  | zero =>
    intro i s acc c ps hk hi st hS hacc hR
    have hin : i = n := by omega
    refine codeAny_builtin F.entry_extend_loop ?_
    rw [Around.under_plainId F.plain_extend_loop _]
    show wpAny _ A.in1 (pyNext (.ref z) >>= _) _ _ s
    have fin : ∀ (h' : Heap) (tk : Nat), (∀ c o, c ≠ z → c ≠ TO → c ≠ i1 → c ≠ i2 → s.heap.get? c = some o → h'.get? c = some o) → R (.ok (.ret res)) { s with heap := h', toks := tk } := fun h' tk k => by
      refine hR h' tk acc c ps (by rw [st.len, hin]) st.nod (fun j p e => ?_) st.ab (fun c o h1 h2 h3 h4 e => k _ _ h1 h2 h3 h4 (st.keep c o h1 h2 h3 h4 e)) (k _ _ (hb _ (by simp)) (hb _ (by simp)) (hb _ (by simp)) (hb _ (by simp)) hS) hacc
      obtain ⟨v, w, e1, e2, e3⟩ := st.tup j p e
      have hgt := st.ab p (List.mem_of_getElem? e)
      have ne : ∀ c, c = z ∨ c = TI ∨ c = TO ∨ c = i1 ∨ c = i2 ∨ c = a ∨ c = b → p ≠ c := fun c hc => Nat.ne_of_gt (Nat.lt_trans (lt c hc) hgt)
      exact ⟨v, w, e1, e2, k _ _ (ne _ (by simp)) (ne _ (by simp)) (ne _ (by simp)) (ne _ (by simp)) e3⟩
    rcases st.ph with ⟨e, hz, x, y, hTO⟩ | ⟨T, hT, f, hz⟩
    · refine wpAny_bind (wpAny_pyNext_zipD2_end S D1 D2 hz st.tI hTO ⟨st.it1, st.l1⟩ ⟨st.it2, st.l2⟩ (by omega) (by omega) (by omega) fun h' tk hk' => wpAny_pure (fin h' tk hk'))
    · obtain ⟨j, hj⟩ := List.getElem?_of_mem hT
      obtain ⟨_, _, _, _, e3⟩ := st.tup j T hj
      refine wpAny_bind (zlh_next_end S D1 D2 hz e3 st.tI ⟨st.it1, st.l1⟩ ⟨st.it2, st.l2⟩ (by omega) (by omega) (by omega) fun h' tk hk' => wpAny_pure (fin h' tk fun c o c1 _ c2 c3 e => hk' c o c1 c2 c3 e))
  | succ k ih =>
    intro i s acc c ps hk hi st hS hacc hR
    have hlt : i < n := by omega
    have hasz : acc.size = i := by rw [← Array.length_toList, hacc, List.length_map, st.len]
    refine codeAny_builtin F.entry_extend_loop ?_
    rw [Around.under_plainId F.plain_extend_loop _]
    show wpAny _ A.in1 (pyNext (.ref z) >>= _) _ _ s
    have hLs : h0.objs.size < s.heap.objs.size := Heap.lt_size hS
    have go : ∀ (h' : Heap) (tk : Nat), ZSt t u z TI TO i1 i2 a b its its2 h0 h' (i + 1) (ps ++ [s.heap.objs.size]) → (∀ c o, c ≠ z → c ≠ TO → c ≠ i1 → c ≠ i2 → s.heap.get? c = some o → h'.get? c = some o) →
        wpAny (model prog w) A.in1 (updateSeq h0.objs.size (·.push (.ref s.heap.objs.size)) >>= fun _ => again (.builtin "list.extend.loop" ⟨[.ref h0.objs.size, .ref z, res], []⟩)) (fun fin s' => match fin with | .done f => R (.ok f) s' | .again c' => c'.quiet = true ∧ codeAny (model prog w) A c' R s') (fun e s' => R (.error e) s') { s with heap := h', toks := tk } := fun h' tk X kk => by
      have hS' : h'.get? h0.objs.size = some { cls := .type "list", dict := none, data := .seq acc c, slots := #[] } := kk _ _ (hb _ (by simp)) (hb _ (by simp)) (hb _ (by simp)) (hb _ (by simp)) hS
      refine wpAny_bind ?_
      refine wpAny_updateSeq (s := { s with heap := h', toks := tk }) hS' rfl (wpAny_pure ⟨plainId_quiet F.plain_extend_loop _, ih (i + 1) _ (acc.push (.ref s.heap.objs.size)) _ (ps ++ [s.heap.objs.size]) (by omega) hlt (X.but rfl lt fun c o hc e => (Heap.get?_update_other _ _ (Ne.symm hc)).trans e) (Heap.get?_update_self _ hS' rfl) (by rw [Array.toList_push, hacc, List.map_append]; rfl) fun h'' tk' acc' c' ps' q1 q2 q3 q4 q5 q6 q7 => hR h'' tk' acc' c' ps' q1 q2 q3 q4 q5 q6 q7⟩)
        (by rw [hasz]; omega) (by show (acc.push _).size ≤ sizeLine + 1; rw [Array.size_push, hasz]; omega)
    rcases st.ph with ⟨e, hz, x0, y0, hTO⟩ | ⟨T, hT, f, hz⟩
    · refine wpAny_bind (wpAny_pyNext_zipD2_item S D1 D2 hz st.tI hTO ⟨st.it1, st.l1⟩ ⟨st.it2, st.l2⟩ (by omega) (by omega) fun x y h' tk k1 k2 z' TO' s1 s2 hp hsz' hk' => ?_)
      exact go h' tk (st.turn lt hLs aS bS TS k1 k2 false s.heap.objs.size (by simp) z' s1.1 s2.1 hp hk') hk'
    · obtain ⟨j, hj⟩ := List.getElem?_of_mem hT
      obtain ⟨_, _, _, _, e3⟩ := st.tup j T hj
      refine wpAny_bind (zlh_next_item S D1 D2 hz e3 st.tI ⟨st.it1, st.l1⟩ ⟨st.it2, st.l2⟩ (by omega) (by omega) fun x y h' tk k1 k2 z' s1 s2 hp hsz' hk' => ?_)
      exact go h' tk (st.turn lt hLs aS bS TS k1 k2 true T (by simp [hT]) z' s1.1 s2.1 hp fun c o c1 _ c2 c3 e => hk' c o c1 c2 c3 e) fun c o c1 _ c2 c3 e => hk' c o c1 c2 c3 e
/-- list(z) of a zip that is new -/
theorem call_list_zip {s : Shared} {Q : Value → Shared → Prop} (hh : A.handled = none) (S : ZipSep2 z TI TO i1 i2 [i1, a] [i2, b]) (na : a ≠ i1) (nb : b ≠ i2) {n : Nat} (hn : n = min its.size its2.size) (hsz : n ≤ sizeLine)
    (lt : ∀ c, c = z ∨ c = TI ∨ c = TO ∨ c = i1 ∨ c = i2 ∨ c = a ∨ c = b → c < s.heap.objs.size) (hz : IsZip s.heap z TI TO .none) (hTI : IsTupOf2 s.heap TI (.ref i1) (.ref i2)) (hTO : ∃ x y, IsTupOf2 s.heap TO x y)
    (h1 : itQ t s.heap i1 a 0) (h2 : itQ u s.heap i2 b 0) (l1 : isQ t s.heap a its) (l2 : isQ u s.heap b its2)
    (hQ : ∀ h' tk acc' c' ps', ps'.length = n → ps'.Nodup → LPs h' its its2 ps' → (∀ p ∈ ps', s.heap.objs.size < p) → (∀ c o, c ≠ z → c ≠ TO → c ≠ i1 → c ≠ i2 → s.heap.get? c = some o → h'.get? c = some o) → h'.get? s.heap.objs.size = some { cls := .type "list", dict := none, data := .seq acc' c', slots := #[] } → acc'.toList = ps'.map Value.ref → Q (.ref s.heap.objs.size) { s with heap := h', toks := tk }) :
    wpAny (model prog w) A (call (.type "list") [.ref z]) Q E s := by
  refine callType_codes (Q₁ := fun obj s₁ => obj = .ref s.heap.objs.size ∧ s₁ = { s with heap := s.heap.push { cls := .type "list", data := .seq #[] } }) PySem.F.called_list (PySem.F.typeCall_list_1 _) PySem.F.entry_list_init
    (code_list_new _ ⟨rfl, rfl⟩) fun obj s₁ h₁ => ?_
  obtain ⟨rfl, rfl⟩ := h₁
  have hS : (s.heap.push { cls := .type "list", data := .seq #[] }).get? s.heap.objs.size = some { cls := .type "list", data := .seq #[] } := Heap.get?_push_size _ rfl
  have hb : ∀ c, c = z ∨ c = TI ∨ c = TO ∨ c = i1 ∨ c = i2 ∨ c = a ∨ c = b → s.heap.objs.size ≠ c := fun c hc => Nat.ne_of_gt (lt c hc)
  have pu : ∀ c o, s.heap.get? c = some o → (s.heap.push { cls := .type "list", data := .seq #[] }).get? c = some o := fun c o e => Heap.get?_push_of_some _ e
  refine ⟨⟨_, hS, rfl⟩, PySem.F.args_list_init_2 _ _, ?_⟩
  show wpAny _ _ (do let old ← Builtin.List.listItems (.ref s.heap.objs.size); Builtin.List.listUpdate (.ref s.heap.objs.size) (fun _ => #[]); letGo old.toList.reverse; Builtin.List.listExtendWith (.ref s.heap.objs.size) (.ref z) .none) _ _ _
  refine wpAny_bind ?_
  unfold Builtin.List.listItems
  refine wpAny_bind (wpAny_seqItems hS rfl (wpAny_pure ?_))
  show wpAny _ _ (updateSeq s.heap.objs.size (fun _ => #[]) >>= fun _ => letGo (#[] : Array Value).toList.reverse >>= fun _ => Builtin.List.listExtendWith (.ref s.heap.objs.size) (.ref z) .none) _ _ _
  refine wpAny_bind (wpAny_updateSeq hS rfl ?_)
  have hS₂ := Heap.get?_update_self (Obj.mapSeq (fun _ => (#[] : Array Value))) hS rfl
  refine wpAny_bind (wpAny_letGo ?_)
  have oth : ∀ c o, c ≠ s.heap.objs.size → s.heap.get? c = some o → ((s.heap.push { cls := .type "list", data := .seq #[] }).update s.heap.objs.size (Obj.mapSeq (fun _ => (#[] : Array Value)))).get? c = some o :=
    fun c o hc e => (Heap.get?_update_other _ _ (Ne.symm hc)).trans (pu c o e)
  have X0 : ZSt t u z TI TO i1 i2 a b its its2 s.heap s.heap 0 [] := ⟨h1, h2, l1, l2, hTI, .inl ⟨rfl, hz, hTO⟩, rfl, List.nodup_nil, fun j p e => by simp at e, (fun p hp => (nomatch hp)), fun _ _ _ _ _ _ e => e⟩
  unfold Builtin.List.listExtendWith
  have hTz : ∀ (h : Heap), h.get? z = s.heap.get? z → ∀ (sh : Shared), sh.heap = h → sh.TypeIs (.ref z) "zip" := fun h e sh es => ⟨_, by rw [es, e]; exact hz, rfl⟩
  have ez := oth z _ (Ne.symm (hb _ (by simp))) hz
  refine wpAny_bind (wpAny_typeOf (T := "zip") ⟨_, ez, rfl⟩ ?_)
  have g1 : Builtin.List.listSameRef (.ref s.heap.objs.size) (.ref z) = false := by simp [Builtin.List.listSameRef, hb z (by simp)]
  have g2 : (Value.type "zip" == Value.type "list") = false := by decide
  have g3 : (Value.type "zip" == Value.type "tuple") = false := by decide
  simp only [g1, g2, g3, Bool.or_false, Bool.false_eq_true, if_false]
  refine wpAny_bind (wpAny_pyIter_zip ez ?_)
  refine wpAny_bind (wpAny_holding ?_)
  unfold Builtin.List.listLengthHint
  refine wpAny_bind (wpAny_specialOf (T := "zip") ⟨_, ez, rfl⟩ zl_no_len ?_)
  show wpAny _ _ (specialOf (Value.ref z) (Str.ofString "__length_hint__") >>= _) _ _ _
  refine wpAny_bind (wpAny_specialOf (T := "zip") ⟨_, ez, rfl⟩ zl_no_hint ?_)
  refine wpAny_pure ?_
  show wpAny _ _ (rule "list.extend.makes-room" >>= fun _ => Builtin.List.listTouch (.ref s.heap.objs.size) >>= fun _ =>
    again (.builtin "list.extend.loop" ⟨[.ref s.heap.objs.size, .ref z, .none], []⟩)) _ _ _
  refine wpAny_bind (wpAny_rule ?_)
  refine wpAny_bind ?_
  show wpAny _ _ (updateSeq s.heap.objs.size (·.push .none) >>= fun _ => updateSeq s.heap.objs.size (·.pop)) _ _ _
  refine wpAny_bind (wpAny_updateSeq hS₂ rfl ?_)
  have hS₃ := Heap.get?_update_self (Obj.mapSeq (·.push Value.none)) hS₂ rfl
  refine wpAny_updateSeq (hz := by seq_fits) hS₃ rfl ?_
  have hS₄ := Heap.get?_update_self (Obj.mapSeq (·.pop)) hS₃ rfl
  refine wpAny_pure ⟨plainId_quiet F.plain_extend_loop _, ?_⟩
  have hX : ZSt t u z TI TO i1 i2 a b its its2 s.heap ((((s.heap.push { cls := .type "list", data := .seq #[] }).update s.heap.objs.size (Obj.mapSeq (fun _ => (#[] : Array Value)))).update s.heap.objs.size (Obj.mapSeq (·.push Value.none))).update s.heap.objs.size (Obj.mapSeq (·.pop))) 0 [] :=
    X0.but rfl lt fun c o hc e => (Heap.get?_update_other _ _ (Ne.symm hc)).trans ((Heap.get?_update_other _ _ (Ne.symm hc)).trans (oth c o hc e))
  have hS5 : ∃ c, ((((s.heap.push { cls := .type "list", data := .seq #[] }).update s.heap.objs.size (Obj.mapSeq (fun _ => (#[] : Array Value)))).update s.heap.objs.size (Obj.mapSeq (·.push Value.none))).update s.heap.objs.size (Obj.mapSeq (·.pop))).get? s.heap.objs.size = some { cls := .type "list", dict := none, data := .seq #[] c, slots := #[] } := ⟨_, hS₄⟩
  show codeAny (model prog w) A.in1 (.builtin "list.extend.loop" ⟨[.ref s.heap.objs.size, .ref z, .none], []⟩) (wants (fun r s₂ => r = Value.none ∧ Q (Value.ref s.heap.objs.size) s₂) E) { s with heap := ((((s.heap.push { cls := .type "list", data := .seq #[] }).update s.heap.objs.size (Obj.mapSeq (fun _ => (#[] : Array Value)))).update s.heap.objs.size (Obj.mapSeq (·.push Value.none))).update s.heap.objs.size (Obj.mapSeq (·.pop))) }
  obtain ⟨c5, hS5⟩ := hS5
  generalize ((((s.heap.push { cls := .type "list", data := .seq #[] }).update s.heap.objs.size (Obj.mapSeq (fun _ => (#[] : Array Value)))).update s.heap.objs.size (Obj.mapSeq (·.push Value.none))).update s.heap.objs.size (Obj.mapSeq (·.pop))) = g4 at hX hS5 ⊢
  refine zl_loop (h0 := s.heap) (t := t) (u := u) (a := a) (b := b) (its := its) (its2 := its2) (TI := TI) (TO := TO) (i1 := i1) (i2 := i2) (n := n) (A := A.in1) (show A.in1.handled = none from hh) S na nb hn hsz lt .none n 0 { s with heap := g4 } #[] c5 [] rfl (Nat.zero_le _) hX hS5 rfl ?_
  intro h' tk acc' c' ps' q1 q2 q3 q4 q5 q6 q7
  exact ⟨rfl, hQ h' tk acc' c' ps' q1 q2 q3 q4 q5 q6 q7⟩
end
end VL
namespace VL
open PySem PySem.Spec PyProof.Rows L2
def laidZ : List (V × V) → Hp → List V → (List V → Hp → Prop) → Prop
  | [], H, acc, C => C acc H
  | q :: r, H, acc, C => ∀ p, H p = none → laidZ r (upd H p (.tup [q.1, q.2])) (acc ++ [.ref p]) C
theorem paired_at {α β : Type} {R : α → β → Prop} : ∀ {xs : List α} {us : List β}, xs.length = us.length → (∀ (j : Nat) (x : α) (u : β), xs[j]? = some x → us[j]? = some u → R x u) → Paired R xs us
  | [], [], _, _ => .nil
  | [], _ :: _, h, _ => by simp at h
  | _ :: _, [], h, _ => by simp at h
  | x :: xs, y :: ys, h, f => .cons (f 0 x y rfl rfl) (paired_at (by simpa using h) fun j a b h1 h2 => f (j + 1) a b (by simpa using h1) (by simpa using h2))
theorem vals_refsZ : ∀ (ps : List Addr), Vals (ps.map V.ref) (ps.map Value.ref)
  | [] => .nil
  | p :: r => .cons rfl (vals_refsZ r)
section
variable {X : Cx} {pins : List (Addr × Obj)} {σ : L2.St} {s : Shared} {h2 : Heap} {L : Addr} {tk : Nat}
theorem laidZ_inv {C : List V → Hp → Prop} : ∀ (qs : List (V × V)) (ps : List Addr) (acc : List V) (H : Hp) (G : Heap), Paired (fun (q : V × V) p => ∃ x y, RelV q.1 x ∧ RelV q.2 y ∧ IsTupOf2 h2 p x y) qs ps →
    Inv X pins σ H { s with heap := G, toks := tk } → (∀ b o, G.get? b = some o → h2.get? b = some o) → (∀ p ∈ ps, G.get? p = none) → G.get? L = none → ps.Nodup → L ∉ ps → laidZ qs H acc C →
    ∃ G' H', Inv X pins σ H' { s with heap := G', toks := tk } ∧ (∀ b o, G'.get? b = some o → h2.get? b = some o) ∧ G'.get? L = none ∧ C (acc ++ ps.map V.ref) H' := by
  intro qs
  induction qs with
  | nil =>
    intro ps acc H G hp I kG fr fL nd nL hl
    cases hp
    exact ⟨G, H, I, kG, fL, by rw [List.map_nil, List.append_nil]; exact hl⟩
  | cons q r ih =>
    intro ps acc H G hp I kG fr fL nd nL hl
    cases hp with
    | @cons _ p _ ps' hq hr =>
      obtain ⟨x, y, rx, ry, hT⟩ := hq
      obtain ⟨G1, g1, g2⟩ := restrict h2 fun b => decide (b = p) || (G.get? b).isSome
      have eG : ∀ b o, G.get? b = some o → G1.get? b = some o := fun b o e => by rw [g1 b (by simp [e])]; exact kG b o e
      have gp : G1.get? p = h2.get? p := g1 p (by simp)
      have nG : ∀ b, b ≠ p → G.get? b = none → G1.get? b = none := fun b hb e => g2 b (by simp [e, hb])
      have hn : H p = none := I.hok.gone (fr p (.head _))
      have I1 : Inv X pins σ (upd H p (.tup [q.1, q.2])) { s with heap := G1, toks := tk } :=
        I.laidN (t' := tk) eG (fr p (.head _)) hn (show ObjOk X.prog X.w (upd H p (.tup [q.1, q.2])) G1 p (.tup [q.1, q.2]) from ⟨by show 2 ≤ sizeLine; decide, [x, y], .cons rx (.cons ry .nil), ⟨_, gp.trans hT, rfl, _, rfl⟩⟩)
      have nd' := List.nodup_cons.mp nd
      obtain ⟨G', H', I', k', l', c⟩ := ih ps' (acc ++ [.ref p]) _ G1 hr I1 (fun b o e => by
        by_cases hb : b = p
        · rw [hb, gp] at e; rw [hb]; exact e
        · cases e' : G.get? b with
          | none => rw [nG b hb e'] at e; cases e
          | some o' =>
            rw [eG b o' e'] at e
            cases e
            exact kG b _ e') (fun b hb => nG b (fun z => nd'.1 (z ▸ hb)) (fr b (.tail _ hb))) (nG L (fun z => nL (z ▸ .head _)) fL) nd'.2 (fun z => nL (.tail _ z)) (hl p hn)
      exact ⟨G', H', I', k', l', by rw [List.map_cons]; rw [List.append_assoc] at c; exact c⟩
end
def tLstZ (K : PySem.W.Frag) (ta : TA) : TE := fun σ H Q => ta σ H fun vs H1 => ∃ t u a b xs ys, vs = [.ref a, .ref b] ∧ SqQ t K H1 a xs ∧ SqQ u K H1 b ys ∧ laidZ (xs.zip ys) H1 [] fun acc H2 => ∀ q, H2 q = none → Q (.ref q) (upd H2 q (.lst acc))
theorem inv_sqz {X : Cx} {pins : List (Addr × Obj)} {σ : L2.St} {H : Hp} {s : Shared} {t : Bool} {a : Addr} {xs : List V} (I : Inv X pins σ H s) (h : SqQ t X.K H a xs) : xs.length ≤ sizeLine := by
  cases t
  · obtain ⟨its, r, p, z⟩ := I.list h
    exact z
  · obtain ⟨its, r, p, z⟩ := I.tuple h
    exact z
structure ZNew (X : Cx) (pins : List (Addr × Obj)) (H1 : Hp) (s' : Shared) (t u : Bool) (z TI TO i1 i2 a b : Addr) (xs ys : List V) (its its2 : List Value) : Prop where
  S : ZipSep2 z TI TO i1 i2 [i1, a] [i2, b]
  na : a ≠ i1
  nb : b ≠ i2
  v1 : Vals xs its
  v2 : Vals ys its2
  sz : xs.length ≤ sizeLine
  lt : ∀ c, c = z ∨ c = TI ∨ c = TO ∨ c = i1 ∨ c = i2 ∨ c = a ∨ c = b → c < s'.heap.objs.size
  hz : IsZip s'.heap z TI TO .none
  hTI : IsTupOf2 s'.heap TI (.ref i1) (.ref i2)
  hTO : ∃ x y, IsTupOf2 s'.heap TO x y
  h1 : itQ t s'.heap i1 a 0
  h2 : itQ u s'.heap i2 b 0
  l1 : isQ t s'.heap a its.toArray
  l2 : isQ u s'.heap b its2.toArray
  fp : ∀ c ∈ [z, TO, i1, i2], FpOk X pins H1 c
theorem ez_zip {X : Cx} {pins : List (Addr × Obj)} {σ : L2.St} {s : Shared} {H : Hp} {e e2 : Expr} {ta : TA} {p2 pos2 : Pos} {W : List V → List V → Hp → Prop} (hg2 : Gl X "zip") (hm2 : X.mg "zip" = none) (ha : PA X [e, e2] ta)
    (hs : starEach [e, e2] X.env = (false, eval e X.env) :: starEach [e2] X.env) (hpl : (backTo pos2 (starEach [e2] X.env)).any (·.1) = false) (I : Inv X pins σ H s)
    (h : ta σ H fun vs H1 => ∃ t u a b xs ys, vs = [.ref a, .ref b] ∧ SqQ t X.K H1 a xs ∧ SqQ u X.K H1 b ys ∧ W xs ys H1) :
    wpAny (model X.prog X.w) X.A (eval (.Call (.Name "zip" p2) [e, e2] [] pos2) X.env) (fun v s' => ∃ t u z TI TO i1 i2 a b xs ys its its2 H1, v = .ref z ∧ Inv X pins σ H1 s' ∧ ZNew X pins H1 s' t u z TI TO i1 i2 a b xs ys its its2 ∧ W xs ys H1) X.xe s := by
  refine Call_ (ld_blt I hg2 hm2 PyProof.Rows.boot_zip (PyProof.Rows.callWith_type1 (thn (ha.run pos2 pins s σ H _ I h) fun us s1 ⟨vs, H1, I1, r1, q1⟩ => ?_) hs hpl))
  obtain ⟨t, u, a, b, xs, ys, ex, hqx, hqy, q⟩ := q1
  subst ex
  cases r1 with
  | cons r rr =>
    cases rr with
    | cons r' rr =>
      cases rr
      cases r
      cases r'
      obtain ⟨its, rv, p1, la⟩ := inv_sq I1 hqx
      obtain ⟨its2, rv2, p3, lb⟩ := inv_sq I1 hqy
      refine zip_begins2 (beginsQ t a its.toArray) (beginsQ u b its2.toArray) p1 p3 fun h' hz hTI hTO h1 h2 hsz hk => ?_
      have I2 : Inv X pins σ H1 { s1 with heap := h' } := I1.kept (t' := s1.toks) hk
      have hzl := Heap.lt_size hz
      refine ⟨t, u, s1.heap.objs.size + 4, s1.heap.objs.size + 2, s1.heap.objs.size + 3, s1.heap.objs.size, s1.heap.objs.size + 1, a, b, xs, ys, its, its2, H1, rfl, I2, ?_, q⟩
      refine ⟨zip_sep2 (N := s1.heap.objs.size) (fp1 := [a]) (fp2 := [b]) (fun c hc => by rw [List.mem_singleton.mp hc]; exact la) (fun c hc => by rw [List.mem_singleton.mp hc]; exact lb), Nat.ne_of_lt la, Nat.ne_of_lt (Nat.lt_succ_of_lt lb), rv, rv2, inv_sqz I1 hqx, fun c hc => ?_, hz, hTI, ⟨_, _, hTO⟩, itQ_new h1, itQ_new h2, isQ_at p1 fun o e => hk _ o e, isQ_at p3 fun o e => hk _ o e, fun c hcm => ?_⟩
      · show c < h'.objs.size
        refine Nat.lt_of_le_of_lt ?_ hzl
        rcases hc with z | z | z | z | z | z | z
        · rw [z]; exact Nat.le_refl _
        · rw [z]; exact Nat.add_le_add_left (by decide) _
        · rw [z]; exact Nat.add_le_add_left (by decide) _
        · rw [z]; exact Nat.le_add_right _ _
        · rw [z]; exact Nat.add_le_add_left (by decide) _
        · rw [z]; exact Nat.le_trans (Nat.le_of_lt la) (Nat.le_add_right _ _)
        · rw [z]; exact Nat.le_trans (Nat.le_of_lt lb) (Nat.le_add_right _ _)
      · have e' : c = s1.heap.objs.size + 4 ∨ c = s1.heap.objs.size + 3 ∨ c = s1.heap.objs.size ∨ c = s1.heap.objs.size + 1 := by simpa using hcm
        have hle : s1.heap.objs.size ≤ c := by
          rcases e' with z | z | z | z
          · rw [z]; exact Nat.le_add_right _ _
          · rw [z]; exact Nat.le_add_right _ _
          · rw [z]; exact Nat.le_refl _
          · rw [z]; exact Nat.le_add_right _ _
        exact I1.fpOk hle (I1.hok.fresh hle)
theorem pe_listZ {X : Cx} {e e2 : Expr} {ta : TA} {p pos p2 pos2 : Pos} (hc : X.calm = true) (hg : Gl X "list") (hm : X.mg "list" = none) (hg2 : Gl X "zip") (hm2 : X.mg "zip" = none) (ha : PA X [e, e2] ta)
    (hs : starEach [e, e2] X.env = (false, eval e X.env) :: starEach [e2] X.env := by rfl) (hpl : (backTo pos2 (starEach [e2] X.env)).any (·.1) = false := by rfl)
    (na : starEach [.Call (.Name "zip" p2) [e, e2] [] pos2] X.env = (false, eval (.Call (.Name "zip" p2) [e, e2] [] pos2) X.env) :: starEach [] X.env := by rfl) :
    PE X (.Call (.Name "list" p) [.Call (.Name "zip" p2) [e, e2] [] pos2] [] pos) (tLstZ X.K ta) := by
  refine ⟨fun pins s σ H Q I h => ?_⟩
  refine Call_ (ld_blt I hg hm boot_list (PyProof.Rows.callWith_type1 (args_cons (thn (ez_zip hg2 hm2 ha hs hpl I h) fun x s1 ⟨t, u, z, TI, TO, i1, i2, a, b, xs, ys, its, its2, H1, ex, I1, Z, q⟩ => args_nil ?_) na) na))
  subst ex
  have e1 := Z.v1.length
  have e3 := Z.v2.length
  refine call_list_zip (n := min its.toArray.size its2.toArray.size) (I1.ok.hd hc) Z.S Z.na Z.nb rfl (by have := Z.sz; simp; omega) Z.lt Z.hz Z.hTI Z.hTO Z.h1 Z.h2 Z.l1 Z.l2 fun h' tk acc' c' ps' q1 q2 q3 q4 q5 q6 q7 => ?_
  have lenq : (xs.zip ys).length = ps'.length := by rw [List.length_zip, q1]; simp; omega
  have nL : s1.heap.objs.size ∉ ps' := fun z => absurd (q4 _ z) (Nat.lt_irrefl _)
  obtain ⟨G, g1, g2⟩ := restrict h' fun b => decide (b ≠ s1.heap.objs.size) && decide (b ∉ ps')
  have gi : ∀ b, b ≠ s1.heap.objs.size → b ∉ ps' → G.get? b = h'.get? b := fun b h1 h2 => g1 b (by simp [h1, h2])
  have gL : G.get? s1.heap.objs.size = none := g2 _ (by simp)
  have gp : ∀ p ∈ ps', G.get? p = none := fun p hp => g2 p (by simp [hp])
  have kG : ∀ b o, G.get? b = some o → h'.get? b = some o := fun b o e => by
    by_cases h1 : b = s1.heap.objs.size
    · rw [h1, gL] at e; cases e
    · by_cases h2 : b ∈ ps'
      · rw [gp b h2] at e; cases e
      · rw [gi b h1 h2] at e; exact e
  have I2 : Inv X pins σ H1 { s1 with heap := G, toks := tk } := I1.turnedL (t' := tk) (ch := [z, TO, i1, i2]) (fun c o hb e => by
    rw [gi c (Nat.ne_of_lt (Heap.lt_size e)) fun w => absurd (Nat.lt_trans (q4 c w) (Heap.lt_size e)) (Nat.lt_irrefl _)]
    exact q5 c o (fun q' => hb (by simp [q'])) (fun q' => hb (by simp [q'])) (fun q' => hb (by simp [q'])) (fun q' => hb (by simp [q'])) e) Z.fp
  have hp : Paired (fun (q : V × V) p => ∃ x y, RelV q.1 x ∧ RelV q.2 y ∧ IsTupOf2 h' p x y) (xs.zip ys) ps' := paired_at lenq fun j q p e4 e5 => by
    obtain ⟨x, y, k1, k2, k3⟩ := q3 j p e5
    have e6 := List.getElem?_zip_eq_some.mp e4
    obtain ⟨u1, f1, r1⟩ := Z.v1.get e6.1
    obtain ⟨u2, f2, r2⟩ := Z.v2.get e6.2
    have k1' : its[j]? = some x := by simpa using k1
    have k2' : its2[j]? = some y := by simpa using k2
    rw [f1] at k1'
    rw [f2] at k2'
    cases k1'
    cases k2'
    exact ⟨_, _, r1, r2, k3⟩
  obtain ⟨G', H', I', k', l', c⟩ := laidZ_inv (L := s1.heap.objs.size) (xs.zip ys) ps' [] H1 G hp I2 kG gp gL q2 nL q
  have hn : H' s1.heap.objs.size = none := I'.hok.gone l'
  refine ⟨.ref s1.heap.objs.size, upd H' s1.heap.objs.size (.lst ([] ++ ps'.map V.ref)), I'.laidN (t' := tk) k' l' hn (show ObjOk X.prog X.w _ _ _ (.lst ([] ++ ps'.map V.ref)) from ⟨?_, acc'.toList, c', ?_, ?_⟩), rfl, c _ hn⟩
  · have := Z.sz
    rw [List.nil_append, List.length_map, q1]
    simp
    omega
  · rw [List.nil_append, q7]; exact vals_refsZ ps'
  · rw [Array.toArray_toList]; exact q6
section
variable {K : PySem.W.Frag} {B : Bs} {s : VS} {σ : L2.St}
theorem laidZ_D {g0 : Gh} {C : List V → Hp → Prop} : ∀ (xs ys : List D) (vs us : List V) (g : Gh) (H : Hp) (ds : List D) (acc : List V), DVs K g xs vs → DVs K g ys us → DVs K g ds acc → Rel K B g s σ H → Gx g0 g →
    (∀ g' H' acc', Gx g0 g' → Rel K B g' s σ H' → DVs K g' (ds ++ pairs xs ys) acc' → C acc' H') → laidZ (vs.zip us) H acc C := by
  intro xs
  induction xs with
  | nil =>
    intro ys vs us g H ds acc d1 d2 d3 R x h
    simp only [DVs] at d1
    subst d1
    exact h g H acc x R (by rw [show pairs [] ys = [] from rfl, List.append_nil]; exact d3)
  | cons x r ih =>
    intro ys vs us g H ds acc d1 d2 d3 R gx h
    simp only [DVs] at d1
    obtain ⟨v, vs', rfl, dv, d1⟩ := d1
    cases ys with
    | nil =>
      simp only [DVs] at d2
      subst d2
      exact h g H acc gx R (by rw [show pairs (x :: r) [] = [] from rfl, List.append_nil]; exact d3)
    | cons y r2 =>
      simp only [DVs] at d2
      obtain ⟨u, us', rfl, du, d2⟩ := d2
      intro p hp
      have gx1 := Gx.put (g := g) (p := p) (o := .tup [v, u]) (R.gn hp)
      refine ih r2 vs' us' (g.put p (.tup [v, u])) _ (ds ++ [.tup [x, y]]) (acc ++ [.ref p]) (d1.mono gx1) (d2.mono gx1) ((d3.mono gx1).app (DVs.cons (DV.t (SqT.of (show upd g.G p _ p = _ from upd_same)) ((DVs.cons dv (DVs.cons du (by simp only [DVs]))).mono gx1)) (by simp only [DVs]))) (R.put hp) (gx.trans gx1) fun g' H' acc' y1 y2 y3 => h g' H' acc' y1 y2 (by
        rw [List.append_assoc] at y3
        exact y3)
end
section
variable {X : Cx} {B : Bs} {W : WX} {a b : Expr} {ma mb : M D} {p pos p2 pos2 : Pos}
theorem pm_listZ (hc : X.calm = true) (hl : X.mg "list" = none) (hz : X.mg "zip" = none) (ha : PM X B W a ma) (hb : PM X B W b mb) (hg : Gl X "list" := by rfl) (hg2 : Gl X "zip" := by rfl)
    (hs : starEach [.Call (.Name "zip" p2) [a, b] [] pos2] X.env = [(false, eval (.Call (.Name "zip" p2) [a, b] [] pos2) X.env)] := by rfl) (hs2 : starEach [a, b] X.env = (false, eval a X.env) :: starEach [b] X.env := by rfl)
    (hs3 : starEach [b] X.env = [(false, eval b X.env)] := by rfl) (hpl : (backTo pos2 (starEach [b] X.env)).any (·.1) = false := by rfl) :
    PM X B W (.Call (.Name "list" p) [.Call (.Name "zip" p2) [a, b] [] pos2] [] pos) (mB listZD (mCons ma (mCons mb mNil))) := by
  refine impE (pe_listZ hc hg hl hg2 hz (pma_cons ha (pma_cons hb pma_nil hs3) hs2) hs2 hpl hs) fun σ H Q h => ?_
  obtain ⟨g, s, Qd, E, R, hm, hk, hx⟩ := h
  refine ⟨g, s, _, E, R, hm, fun g1 s1 H1 vs dd x1 R1 dv q1 => ?_, hx⟩
  unfold listZD at q1
  split at q1
  · obtain ⟨t, u, xs, ys, e1, e2, q1⟩ := q1
    obtain ⟨v, u', rfl, h1, h2⟩ := dv.two
    obtain ⟨a1, v1, rfl, k1, s1'⟩ := seq_V h1 e1
    obtain ⟨a2, v2, rfl, k2, s2'⟩ := seq_V h2 e2
    refine ⟨t, u, a1, a2, v1, v2, rfl, k1 g1 H1 (Gx.refl _) R1.gh.sub, k2 g1 H1 (Gx.refl _) R1.gh.sub, ?_⟩
    refine laidZ_D (g0 := g) xs ys v1 v2 g1 H1 [] [] s1' s2' (by simp only [DVs]) R1 x1 fun g2 H2 acc x2 R2 da q hq => ?_
    have gx := Gx.put (g := g2) (p := q) (o := .lst acc) (R2.gn hq)
    exact hk _ _ _ _ _ (x2.trans gx) (R2.put hq) (DV.l (show upd g2.G q _ q = _ from upd_same) (da.mono gx)) q1
  · exact q1.elim
end
end VL
namespace K11
open PySem L2 VL KL KM KP KT SS
def pD (q : Int × Int) : D := .tup [.int q.1, .int q.2]
def pnD : Option (Int × Int) → D
  | none => .non
  | some q => pD q
def pnK (p : Pn) : List (Key × D) := p.map fun q => (.inr q.1, pnD q.2)
def F_law_put_in : FT := fun ds st Q _ => ∃ (ws : List Str) (sh : List Sft) (ns : List Int), ds = [TS ws, .lst (sh.map sfD), TI ns] ∧ 1 ≤ ws.length ∧ ws.length ≤ 5 ∧ ws.Nodup ∧ ns.length = ws.length ∧ sh.length ≤ 8 ∧ okT ws [] sh ∧ ∀ h, Q (.fdc (pnK (putF (lkI ws ns) sh []))) ⟨st.n, h⟩
def F_law_caught : FTh := fun th st Q _ => ∀ (Qd : D → Ms → Prop) (Ed : Exn → Ms → Prop), (∀ d st', Q .non st' → Qd d st') → (∀ d st', okR d = true → (pyR d).depth ≤ 60 → (reprD d).length ≤ sizeLine → Q (.str (reprD d)) st' → Ed ⟨"BadNumber", [("value", d)]⟩ st') → th st Qd Ed
def F_law : FT := fun ds st Q _ => ∃ ns : List Int, ds = [.scr ns] ∧ st = m0 ∧ ns.length ≤ 63 ∧ (∀ z ∈ ns, Builtin.Int.intBits z ≤ 1048576) ∧ ∀ m, Q (.bl true) m
end K11
namespace K11
open PySem L2 VL KL KM KP KT SS
def m_law_put_in : MS :=
  (mSeq (mPar2 3 4 (mCons mDctL (mCons (mDctP (mCons (mB listZD (mCons (mVar 0) (mCons (mVar 2) mNil))) mNil)) mNil)))
  (mSeq (mFor (mIt itL (mVar 1)) (gTp 4 (gCons (gN 5) (gCons (gN 6) (gCons (gN 7) (gCons (gN 8) gNil)))))
  (mSeq (mSet 9 (mIf (mTst (mOp neP (mVar 6) (mC (.str "hand")))) (mLstL mNil) (mLstL (mCons (mC (.tup [.int 1, .int 0])) mNil))))
  (mSeq (mFor (mIt itT (mVar 8)) (gTp 4 (gCons (gN 10) (gCons (gN 11) (gCons (gN 12) (gCons (gN 13) gNil)))))
  (mIfS (mTst (mOp (isD true) (mDGet (mVar 3) (mVar 10)) (mC .non))) (mSeq (mSet 16 (mIf (mTst (mOp eqTP (mVar 13) (mC (.str "band")))) (mC (.int 1)) (mUn negD (mC (.int 1)))))
  (mAppM (mVar 9) (mTup (mCons (mOp mulD (mOp idxD (mDGet (mVar 3) (mVar 10)) (mC (.int 0))) (mVar 16)) (mCons (mOp (dI (fun _ _ => True) fun i j => .int (i - j)) (mOp addD (mOp idxD (mDGet (mVar 3) (mVar 10)) (mC (.int 1))) (mDGet (mVar 4) (mVar 11))) (mDGet (mVar 4) (mVar 12))) mNil))))) mNext))
  (mSeq (mSet 14 (mComp [17] (mIt itL (mFzL (mVar 9))) (gN 17) (mOr (mTst (mOp (inT false) (mVar 6) (mC (.tup [.str "hand", .str "fixed"])))) (mTst (mOp eqP (mOp idxD (mVar 17) (mC (.int 0))) (mVar 7)))) (mVar 17)))
  (mSeq (mSet 15 (mComp [17] (mIt itL (mVar 14)) (gN 17) mYes (mOp idxD (mVar 17) (mC (.int 1)))))
  (mSeq (mDPut (mVar 3) (mVar 5) (mC .non))
  (mIfS (mTst (mOp ne0P (mVar 14) (mLst mNil))) (mDPut (mVar 3) (mVar 5) (mTup (mCons (mOp idxD (mOp idxD (mVar 14) (mC (.int 0))) (mC (.int 0))) (mCons (mIf (mTst (mOp eqTP (mVar 6) (mC (.str "slow")))) (mB minD (mCons (mVar 15) mNil)) (mB maxD (mCons (mVar 15) mNil))) mNil)))) mNext)))))))
  (mRet (mFz (mVar 3)))))
def m_law_caught (fA : Addr) (th : Th) : MS :=
  (mSeq (mTryT tab.L tab.sub [(["BadNumber"], 1, (mRet (mB reprQ (mCons (mUn (excFld ["BadSizes", "BadNumber"] "value") (mVar 1)) mNil))))] (mDrop (mThunk fA th)))
  (mRet (mC .non)))
def m_law : MS :=
  (mSeq (mSet 1 (mCall 1 F_law_begun (mCons (mVar 0) mNil)))
  (mSeq (mFor (mItA it1 (mCons (mOp addD (mC (.int 5)) (mB min2D (mCons (mB lenD (mCons (mVar 0) mNil)) (mCons (mC (.int 12)) mNil)))) mNil)) (gN 2)
  (mSeq (mSet 3 (mCall 2 F_law_sizes (mCons (mVar 1) (mCons (mC (.int 5)) mNil))))
  (mSeq (mSet 4 (mCall 3 F_law_shafts (mCons (mVar 1) (mCons (mVar 3) (mCons (mC (.int 6)) mNil)))))
  (mSeq (mAsg (mTup (mCons (mMake "Train" 2 F_Trainu_initu (mCons (mVar 3) (mCons (mVar 4) mNil))) (mCons (mCall 2 F_law_turning (mCons (mVar 3) (mCons (mVar 4) mNil))) mNil))) (gTp 2 (gCons (gN 5) (gCons (gN 6) gNil))))
  (mSeq (mFor (mIt itK (mVar 6)) (gN 7)
  (mSeq (mSet 11 (mIf (mTst (mOp (isD false) (mDGet (mVar 6) (mVar 7)) (mC .non))) (mC (.tup [.int 0, .non])) (mDGet (mVar 6) (mVar 7))))
  (mIfS (mTst (mOp neP (mB reprQ (mCons (mTup (mCons (mMethM "Train" "way" 2 F_Train_way (mVar 5) (mCons (mVar 7) mNil)) (mCons (mMethM "Train" "speed" 2 F_Train_speed (mVar 5) (mCons (mVar 7) mNil)) mNil))) mNil)) (mB reprQ (mCons (mVar 11) mNil)))) (mRet (mC (.bl false))) mNext)))
  (mSeq (mFor (mItA it1 (mCons (mC (.int 3)) mNil)) (gN 8)
  (mSeq (mSet 12 (mCall 2 F_law_numbers (mCons (mVar 1) (mCons (mB lenD (mCons (mVar 3) mNil)) mNil))))
  (mSeq (mSet 11 (mCall 3 F_law_put_in (mCons (mVar 3) (mCons (mVar 4) (mCons (mVar 12) mNil)))))
  (mFor (mIt itK (mVar 11)) (gN 7)
  (mIfS (mTst (mOp (isD false) (mDGet (mVar 11) (mVar 7)) (mC .non))) (mIfS (mOr (mTst (mOp (isD true) (mMethM "Train" "speed" 2 F_Train_speed (mVar 5) (mCons (mVar 7) mNil)) (mC .non))) (mTst (mOp neP (mMethM "Train" "way" 2 F_Train_way (mVar 5) (mCons (mVar 7) mNil)) (mC (.int 0))))) (mRet (mC (.bl false))) mNext) (mIfS (mTst (mOp neP (mTup (mCons (mMethM "Train" "way" 2 F_Train_way (mVar 5) (mCons (mVar 7) mNil)) (mCons (mCall 2 (F_law_weight 9) (mCons (mMethM "Train" "speed" 2 F_Train_speed (mVar 5) (mCons (mVar 7) mNil)) (mCons (mVar 12) mNil))) mNil))) (mDGet (mVar 11) (mVar 7)))) (mRet (mC (.bl false))) mNext))))))
  (mSeq (mSet 9 (mMethM "Train" "only" 2 F_Train_only (mVar 5) (mCons (mOp addD (mC (.int 1)) (mCall 2 F_law_next (mCons (mVar 1) (mCons (mB lenD (mCons (mVar 4) mNil)) mNil)))) mNil)))
  (mSeq (mIfS (mTst (mOp neP (mComp [7] (mIt itT (mMethM "Train" "names" 1 F_Train_names (mVar 9) mNil)) (gN 7) mYes (mB reprQ (mCons (mMethM "Train" "speed" 2 F_Train_speed (mVar 9) (mCons (mVar 7) mNil)) mNil))) (mComp [7] (mIt itT (mMethM "Train" "names" 1 F_Train_names (mVar 9) mNil)) (gN 7) mYes (mB reprQ (mCons (mMethM "Train" "speed" 2 F_Train_speed (mVar 5) (mCons (mVar 7) mNil)) mNil))))) (mRet (mC (.bl false))) mNext)
  (mFor (mIt itT (mTup (mCons (mC .non) (mCons (mC (.int 5)) (mCons (mC (.str "zz")) (mCons (mC (.tup [.str "bs"])) (mCons (mLst mNil) (mCons (mCall 1 F_law_odd (mCons (mVar 1) mNil)) mNil)))))))) (gN 10)
  (mSeq (mSet 13 (mLst (mCons (mLam F_law_caught (mMethM "Train" "way" 2 F_Train_way (mVar 5) (mCons (mVar 10) mNil))) (mCons (mLam F_law_caught (mMethM "Train" "speed" 2 F_Train_speed (mVar 5) (mCons (mVar 10) mNil))) mNil))))
  (mIfS (mAnd (mTst (mOp (inT true) (mVar 10) (mB lstKD (mCons (mVar 6) mNil)))) (mTst (mOp neP (mVar 13) (mOp mulD (mLst (mCons (mB reprQ (mCons (mVar 10) mNil)) mNil)) (mC (.int 2)))))) (mRet (mC (.bl false))) mNext)))))))))))
  (mRet (mC (.bl true)))))
end K11
namespace K11
open PySem L2 VL KL KM KP KT SS
abbrev tL : MG := gTp 4 (gCons (gN 10) (gCons (gN 11) (gCons (gN 12) (gCons (gN 13) gNil))))
abbrev pi2 : MS := (mIfS (mTst (mOp (isD true) (mDGet (mVar 3) (mVar 10)) (mC .non))) (mSeq (mSet 16 (mIf (mTst (mOp eqTP (mVar 13) (mC (.str "band")))) (mC (.int 1)) (mUn negD (mC (.int 1))))) (mAppM (mVar 9) (mTup (mCons (mOp mulD (mOp idxD (mDGet (mVar 3) (mVar 10)) (mC (.int 0))) (mVar 16)) (mCons (mOp (dI (fun _ _ => True) fun i j => .int (i - j)) (mOp addD (mOp idxD (mDGet (mVar 3) (mVar 10)) (mC (.int 1))) (mDGet (mVar 4) (mVar 11))) (mDGet (mVar 4) (mVar 12))) mNil))))) mNext)
def smK (ws : List Str) (ns : List Int) : List (Key × D) := (ws.zip ns).map fun q => (.inr q.1, .int q.2)
theorem getK_pn {p : Pn} {n : Str} (h : n ∈ p.map (·.1)) : getK (pnK p) (.inr n) = some (pnD (lookP p n)) := by
  unfold pnK lookP
  rw [getK_map (f := pnD) p]
  cases e : p.find? fun q => decide (q.1 = n) with
  | some q => rfl
  | none =>
    obtain ⟨q, hq, rfl⟩ := List.mem_map.mp h
    have := List.find?_eq_none.mp e q hq
    simp at this
theorem getK_sm {ws : List Str} {ns : List Int} {a : Str} (h : a ∈ ws) (hl : ws.length = ns.length) : getK (smK ws ns) (.inr a) = some (.int (lkI ws ns a)) := by
  unfold smK lkI
  rw [getK_map (f := D.int) (ws.zip ns)]
  cases e : (ws.zip ns).find? fun q => decide (q.1 = a) with
  | some q => rfl
  | none =>
    obtain ⟨i, hi, rfl⟩ := List.getElem_of_mem h
    have hz : (ws[i], ns[i]'(hl ▸ hi)) ∈ ws.zip ns := by
      rw [List.mem_iff_getElem]
      exact ⟨i, by rw [List.length_zip]; omega, by simp⟩
    have := List.find?_eq_none.mp e _ hz
    simp at this
theorem pn_links {ws nm : List Str} {ns : List Int} {p : Pn} {i j n : Nat} {hb : List Cell} {K : VE} {s1 s2 s5 s6 s7 s8 s14 s15 s17 : Slot} (hl : ws.length = ns.length) (hp : p.map (·.1) = nm) (hi : hb[i]? = some (.k (pnK p))) (hj : hb[j]? = some (.k (smK ws ns))) : ∀ (ls : List Lnk) (so : List (Int × Int)) (s10 s11 s12 s13 s16 : Slot), (∀ l ∈ ls, okLk ws nm l) → so.length + ls.length ≤ 4 →
    (∀ t10 t11 t12 t13 t16 : Slot, K.nx ⟨[.dat (TS ws), s1, s2, .dat (.loc i), .dat (.loc j), s5, s6, s7, s8, .dat (.loc hb.length), t10, t11, t12, t13, s14, s15, t16, s17], ⟨n, hb ++ [.l ((so ++ ls.filterMap (linkP (lkI ws ns) p)).map pD)]⟩⟩) →
    forR tL pi2 (ls.map lkD) ⟨[.dat (TS ws), s1, s2, .dat (.loc i), .dat (.loc j), s5, s6, s7, s8, .dat (.loc hb.length), s10, s11, s12, s13, s14, s15, s16, s17], ⟨n, hb ++ [.l (so.map pD)]⟩⟩ K
  | [], so, s10, s11, s12, s13, s16, _, _, hK => by
    have := hK s10 s11 s12 s13 s16
    rw [List.filterMap_nil, List.append_nil] at this
    exact this
  | l :: r, so, s10, s11, s12, s13, s16, hL, h4, hK => by
    rw [List.length_cons] at h4
    have L := hL l (by simp)
    have hi' : (hb ++ [Cell.l (so.map pD)])[i]? = some (.k (pnK p)) := by
      rw [List.getElem?_append_left (by rw [List.getElem?_eq_some_iff] at hi; exact hi.1)]; exact hi
    have hj' : (hb ++ [Cell.l (so.map pD)])[j]? = some (.k (smK ws ns)) := by
      rw [List.getElem?_append_left (by rw [List.getElem?_eq_some_iff] at hj; exact hj.1)]; exact hj
    have hg := getK_pn (p := p) (n := l.n) (by rw [hp]; exact L.n)
    have ga := getK_sm (ns := ns) L.a hl
    have gb := getK_sm (ns := ns) L.b hl
    refine ⟨rfl, rfl, ?_⟩
    refine ⟨_, _, _, hi', rfl, hg, ?_⟩
    refine ⟨_, rfl, ?_⟩
    cases q : lookP p l.n with
    | none =>
      refine ite_no (by decide) ?_
      have e : linkP (lkI ws ns) p l = none := by unfold linkP; rw [q]; rfl
      refine pn_links hl hp hi hj r so _ _ _ _ _ (fun x hx => hL x (by simp [hx])) (by omega) fun t10 t11 t12 t13 t16 => ?_
      have := hK t10 t11 t12 t13 t16
      rw [List.filterMap_cons, e] at this
      exact this
    | some w =>
      rw [q] at hg
      have e : linkP (lkI ws ns) p l = some (w.1 * (if l.k = "band" then 1 else -1), w.2 + lkI ws ns l.a - lkI ws ns l.b) := by unfold linkP; rw [q]; rfl
      refine ite_yes rfl ?_
      refine ⟨rfl, _, rfl, ?_⟩
      have hbd : isSt "band" (.str l.k) = decide (l.k = "band") := by simp [isSt, beq_dec]
      rw [hbd]
      have fin : ∀ z : Int, (z = 1 ∨ z = -1) → z = (if l.k = "band" then 1 else -1) → mAppM (mVar 9) (mTup (mCons (mOp mulD (mOp idxD (mDGet (mVar 3) (mVar 10)) (mC (.int 0))) (mVar 16)) (mCons (mOp (dI (fun _ _ => True) fun i j => .int (i - j)) (mOp addD (mOp idxD (mDGet (mVar 3) (mVar 10)) (mC (.int 1))) (mDGet (mVar 4) (mVar 11))) (mDGet (mVar 4) (mVar 12))) mNil))) ⟨[.dat (TS ws), s1, s2, .dat (.loc i), .dat (.loc j), s5, s6, s7, s8, .dat (.loc hb.length), .dat (.str l.n), .dat (.str l.a), .dat (.str l.b), .dat (.str l.k), s14, s15, .dat (.int z), s17], ⟨n, hb ++ [.l (so.map pD)]⟩⟩
          { K with nx := fun s2 => forR tL pi2 (r.map lkD) s2 K, ct := fun s2 => forR tL pi2 (r.map lkD) s2 K, bk := K.nx } := by
        intro z hz ez
        have hl' : (hb ++ [Cell.l (so.map pD)])[hb.length]? = some (.l (so.map pD)) := by simp
        refine ⟨⟨_, hl'⟩, ?_⟩
        refine ⟨_, _, _, hi', rfl, hg, _, at0', ?_⟩
        refine ⟨IntMulOk.of_right (by rcases hz with rfl | rfl <;> decide), ?_⟩
        refine ⟨_, _, _, hi', rfl, hg, _, at1', ?_⟩
        refine ⟨_, _, _, hj', rfl, ga, ?_⟩
        refine ⟨_, _, _, hj', rfl, gb, ?_⟩
        refine ⟨trivial, (by first | decide | (refine Nat.le_trans ?_ sizeLine_big; first | (simp only [List.length_append, List.length_cons, List.length_nil, List.length_map]; omega) | (simp; omega)) | (refine Nat.lt_of_lt_of_le ?_ sizeLine_big; first | (simp only [List.length_append, List.length_cons, List.length_nil, List.length_map]; omega) | (simp; omega))), _, hl', Nat.lt_of_le_of_lt (show (so.map pD).length ≤ 4 by rw [List.length_map]; omega) (by decide), ?_⟩
        have hs : ∀ c, (hb ++ [Cell.l (so.map pD)]).set hb.length c = hb ++ [c] := fun c => by simp
        rw [hs]
        have e2 : so.map pD ++ [.tup [.int (w.1 * z), .int (w.2 + lkI ws ns l.a - lkI ws ns l.b)]] = (so ++ [(w.1 * (if l.k = "band" then 1 else -1), w.2 + lkI ws ns l.a - lkI ws ns l.b)]).map pD := by
          rw [List.map_append, ez]
          rfl
        rw [e2]
        refine pn_links hl hp hi hj r (so ++ [(w.1 * (if l.k = "band" then 1 else -1), w.2 + lkI ws ns l.a - lkI ws ns l.b)]) _ _ _ _ _ (fun x hx => hL x (by simp [hx])) (by rw [List.length_append, List.length_singleton]; omega) fun t10 t11 t12 t13 t16 => ?_
        have := hK t10 t11 t12 t13 t16
        rw [List.filterMap_cons, e] at this
        rw [List.append_assoc]
        exact this
      by_cases ek : l.k = "band"
      · refine ite_yes (by simp [ek]) ?_
        exact fin 1 (.inl rfl) (by rw [if_pos ek])
      · refine ite_no (by simp [ek]) ?_
        exact fin (-1) (.inr rfl) (by rw [if_neg ek])
end K11
namespace K11
open PySem L2 VL KL KM KP KT SS
abbrev tS : MG := gTp 4 (gCons (gN 5) (gCons (gN 6) (gCons (gN 7) (gCons (gN 8) gNil))))
abbrev pi1_0 : MS := (mSet 9 (mIf (mTst (mOp neP (mVar 6) (mC (.str "hand")))) (mLstL mNil) (mLstL (mCons (mC (.tup [.int 1, .int 0])) mNil))))
abbrev pi1_1 : MS := (mFor (mIt itT (mVar 8)) tL pi2)
abbrev pi1_2 : MS := (mSet 14 (mComp [17] (mIt itL (mFzL (mVar 9))) (gN 17) (mOr (mTst (mOp (inT false) (mVar 6) (mC (.tup [.str "hand", .str "fixed"])))) (mTst (mOp eqP (mOp idxD (mVar 17) (mC (.int 0))) (mVar 7)))) (mVar 17)))
abbrev pi1_3 : MS := (mSet 15 (mComp [17] (mIt itL (mVar 14)) (gN 17) mYes (mOp idxD (mVar 17) (mC (.int 1)))))
abbrev pi1_4 : MS := (mDPut (mVar 3) (mVar 5) (mC .non))
abbrev pi1_5 : MS := (mIfS (mTst (mOp ne0P (mVar 14) (mLst mNil))) (mDPut (mVar 3) (mVar 5) (mTup (mCons (mOp idxD (mOp idxD (mVar 14) (mC (.int 0))) (mC (.int 0))) (mCons (mIf (mTst (mOp eqTP (mVar 6) (mC (.str "slow")))) (mB minD (mCons (mVar 15) mNil)) (mB maxD (mCons (mVar 15) mNil))) mNil)))) mNext)
abbrev pi1 : MS := (mSeq pi1_0 (mSeq pi1_1 (mSeq pi1_2 (mSeq pi1_3 (mSeq pi1_4 pi1_5)))))
theorem put_new {p : Pn} {n : Str} (h : n ∉ p.map (·.1)) (q : Option (Int × Int)) : putKD (pnK p) (.inr n) (pnD q) = pnK (p ++ [(n, q)]) := by
  unfold putKD pnK
  rw [if_neg, List.map_append]
  · rfl
  · intro hc
    obtain ⟨z, hz, he⟩ := List.any_eq_true.mp hc
    obtain ⟨y, hy, rfl⟩ := List.mem_map.mp hz
    exact h (by rw [← Sum.inr.inj (of_decide_eq_true he)]; exact List.mem_map_of_mem hy)
theorem put_again {p : Pn} {n : Str} {d : Option (Int × Int)} (h : n ∉ p.map (·.1)) (q : Option (Int × Int)) : putKD (pnK (p ++ [(n, d)])) (.inr n) (pnD q) = pnK (p ++ [(n, q)]) := by
  unfold putKD pnK
  rw [List.map_append, if_pos (by simp), List.map_append, List.map_append]
  congr 1
  · rw [List.map_map]
    refine List.map_congr_left fun y hy => ?_
    have e : ¬ ((Sum.inr y.1 : Key) = Sum.inr n) := fun z => h (by rw [← Sum.inr.inj z]; exact List.mem_map_of_mem hy)
    show (if (Sum.inr y.1 : Key) = Sum.inr n then _ else _) = _
    rw [if_neg e]
  · simp
theorem pt_loop {ws : List Str} {ns : List Int} {i j n : Nat} {K : VE} {s1 s2 : Slot} (hl : ws.length = ns.length) (hij : i ≠ j) : ∀ (sh : List Sft) (nm : List Str) (p : Pn) (hb : List Cell) (s5 s6 s7 s8 s9 s10 s11 s12 s13 s14 s15 s16 s17 : Slot), p.map (·.1) = nm → okT ws nm sh → nm.length + sh.length ≤ 8 → hb[i]? = some (.k (pnK p)) → hb[j]? = some (.k (smK ws ns)) →
    (∀ (h : List Cell) (t5 t6 t7 t8 t9 t10 t11 t12 t13 t14 t15 t16 t17 : Slot), h[i]? = some (.k (pnK (putF (lkI ws ns) sh p))) → K.nx ⟨[.dat (TS ws), s1, s2, .dat (.loc i), .dat (.loc j), t5, t6, t7, t8, t9, t10, t11, t12, t13, t14, t15, t16, t17], ⟨n, h⟩⟩) →
    forR tS pi1 (sh.map sfD) ⟨[.dat (TS ws), s1, s2, .dat (.loc i), .dat (.loc j), s5, s6, s7, s8, s9, s10, s11, s12, s13, s14, s15, s16, s17], ⟨n, hb⟩⟩ K
  | [], nm, p, hb, s5, s6, s7, s8, s9, s10, s11, s12, s13, s14, s15, s16, s17, _, _, _, hi, _, hK => hK hb _ _ _ _ _ _ _ _ _ _ _ _ _ hi
  | s :: r, nm, p, hb, s5, s6, s7, s8, s9, s10, s11, s12, s13, s14, s15, s16, s17, hp, hT, h8, hi, hj, hK => by
    rw [List.length_cons] at h8
    obtain ⟨hS, hR⟩ := hT
    have h3 : s.ls.length ≤ 3 := by
      by_cases q : nm = []
      · rw [(hS.h q).2.2]; decide
      · rcases hS.o q with h | h
        · omega
        · exact h.2.2.2
    have hlp : p.length = nm.length := by rw [← hp, List.length_map]
    have hn : s.n ∉ p.map (·.1) := by rw [hp]; exact hS.n
    have il : i < hb.length := (List.getElem?_eq_some_iff.mp hi).1
    have jl : j < hb.length := (List.getElem?_eq_some_iff.mp hj).1
    have hh : ∀ z : Str, isSt z (.str s.m) = decide (s.m = z) := fun z => by simp [isSt, beq_dec]
    -- behind all stores
    have go : ∀ (h : List Cell) (t9 t10 t11 t12 t13 t14 t15 t16 t17 : Slot), h[i]? = some (.k (pnK (p ++ [(s.n, stepP (lkI ws ns) p s)]))) → h[j]? = some (.k (smK ws ns)) → forR tS pi1 (r.map sfD) ⟨[.dat (TS ws), s1, s2, .dat (.loc i), .dat (.loc j), .dat (.str s.n), .dat (.str s.m), .dat (.int s.w), .dat (.tup (s.ls.map lkD)), t9, t10, t11, t12, t13, t14, t15, t16, t17], ⟨n, h⟩⟩ K := fun h t9 t10 t11 t12 t13 t14 t15 t16 t17 g1 g2 =>
      pt_loop hl hij r (nm ++ [s.n]) (p ++ [(s.n, stepP (lkI ws ns) p s)]) h _ _ _ _ _ _ _ _ _ _ _ _ _ (by rw [List.map_append, hp]; rfl) hR (by rw [List.length_append, List.length_singleton]; omega) g1 g2 hK
    have e0 : ∃ so0 : List (Int × Int), (so0 = if s.m = "hand" then [((1 : Int), (0 : Int))] else []) ∧ so0.length ≤ 1 := by
      by_cases c : s.m = "hand"
      · exact ⟨_, rfl, by rw [if_pos c]; simp⟩
      · exact ⟨_, rfl, by rw [if_neg c]; simp⟩
    obtain ⟨so0, es0, l0⟩ := e0
    -- behind the first list
    have main : ∀ t9 : Slot, mSeq pi1_1 (mSeq pi1_2 (mSeq pi1_3 (mSeq pi1_4 pi1_5))) ⟨[.dat (TS ws), s1, s2, .dat (.loc i), .dat (.loc j), .dat (.str s.n), .dat (.str s.m), .dat (.int s.w), .dat (.tup (s.ls.map lkD)), .dat (.loc hb.length), s10, s11, s12, s13, s14, s15, s16, s17], ⟨n, hb ++ [.l (so0.map pD)]⟩⟩
        { K with nx := fun s2 => forR tS pi1 (r.map sfD) s2 K, ct := fun s2 => forR tS pi1 (r.map sfD) s2 K, bk := K.nx } := by
      intro t9
      refine pn_links hl hp hi hj s.ls so0 _ _ _ _ _ hS.ls (by omega) fun t10 t11 t12 t13 t16 => ?_
      have hstep : stepP (lkI ws ns) p s = (((so0 ++ s.ls.filterMap (linkP (lkI ws ns) p)).filter fun q => (decide (s.m = "hand") || decide (s.m = "fixed")) || decide (q.1 = s.w)).head?.map fun g => (g.1, if s.m = "slow" then minI (((so0 ++ s.ls.filterMap (linkP (lkI ws ns) p)).filter fun q => (decide (s.m = "hand") || decide (s.m = "fixed")) || decide (q.1 = s.w)).map (·.2)) else maxI (((so0 ++ s.ls.filterMap (linkP (lkI ws ns) p)).filter fun q => (decide (s.m = "hand") || decide (s.m = "fixed")) || decide (q.1 = s.w)).map (·.2)))) := by
        rw [es0]; rfl
      have hso : (so0 ++ s.ls.filterMap (linkP (lkI ws ns) p)).length ≤ 4 := by
        have := List.length_filterMap_le (linkP (lkI ws ns) p) s.ls
        rw [List.length_append]; omega
      generalize so0 ++ s.ls.filterMap (linkP (lkI ws ns) p) = so at hstep hso ⊢
      have hx : (hb ++ [Cell.l (so.map pD)])[hb.length]? = some (.l (so.map pD)) := by simp
      refine ⟨so.map pD, hx, ?_⟩
      show compR _ _ _ _ (so.map pD) _ [] _
      refine compR_filterT pD (fun q => (decide (s.m = "hand") || decide (s.m = "fixed")) || decide (q.1 = s.w)) so [] (by simp; omega) (fun q hq a b h1 h0 => ?_) ?_
      · refine ⟨_, rfl, rfl, _, rfl, ?_⟩
        refine KL.ite_b (fun h => ?_) (fun h => ?_)
        · have h' : (decide (s.m = "hand") || decide (s.m = "fixed")) = true := by simpa [hh] using h
          exact h1 (by rw [h', Bool.true_or])
        · have h' : (decide (s.m = "hand") || decide (s.m = "fixed")) = false := by simpa [hh] using h
          refine ⟨_, at0', _, rfl, ?_⟩
          show (if (q.1 == s.w) = true then _ else _)
          by_cases e : q.1 = s.w
          · exact ite_yes (by simp [e]) (h1 (by simp [e]))
          · exact ite_no (by simp [e]) (h0 (by rw [h', Bool.false_or]; simp [e]))
      rw [List.nil_append]
      have hgl : (so.filter fun q => (decide (s.m = "hand") || decide (s.m = "fixed")) || decide (q.1 = s.w)).length ≤ 4 := Nat.le_trans (List.length_filter_le _ _) hso
      generalize so.filter (fun q => (decide (s.m = "hand") || decide (s.m = "fixed")) || decide (q.1 = s.w)) = gd at hstep hgl ⊢
      show compR _ _ _ _ (gd.map pD) _ [] _
      refine compR_mapT pD (fun q => .int q.2) gd [] (by simp; omega) (fun q hq a ha => ⟨_, at1', ha⟩) ?_
      rw [List.nil_append]
      have hs0 : (hb ++ [Cell.l (so.map pD)]).set hb.length .x = hb ++ [.x] := by simp
      have hi1 : (hb ++ [Cell.x])[i]? = some (.k (pnK p)) := by rw [List.getElem?_append_left il]; exact hi
      have hj1 : (hb ++ [Cell.x])[j]? = some (.k (smK ws ns)) := by rw [List.getElem?_append_left jl]; exact hj
      have il1 : i < (hb ++ [Cell.x]).length := by rw [List.length_append]; omega
      have pl : (pnK p).length < sizeLine := Nat.lt_of_le_of_lt (show (pnK p).length ≤ 8 by unfold pnK; rw [List.length_map]; omega) (by decide)
      refine ⟨pnK p, .inr s.n, by rw [hs0]; exact hi1, rfl, pl, ?_⟩
      rw [hs0, show putKD (pnK p) (.inr s.n) .non = pnK (p ++ [(s.n, none)]) from put_new hn none]
      generalize hH : (hb ++ [Cell.x]) = H at hi1 hj1 il1
      have hi2 : (H.set i (.k (pnK (p ++ [(s.n, none)]))))[i]? = some (.k (pnK (p ++ [(s.n, none)]))) := by rw [List.getElem?_set_self il1]
      have hj2 : (H.set i (.k (pnK (p ++ [(s.n, none)]))))[j]? = some (.k (smK ws ns)) := by rw [List.getElem?_set_ne hij]; exact hj1
      have hg : ∀ t9 t14 t15 : Slot, gd = [] → pi1_5 ⟨[.dat (TS ws), s1, s2, .dat (.loc i), .dat (.loc j), .dat (.str s.n), .dat (.str s.m), .dat (.int s.w), .dat (.tup (s.ls.map lkD)), t9, t10, t11, t12, t13, .dat (.lst (gd.map pD)), t15, t16, s17], ⟨n, H.set i (.k (pnK (p ++ [(s.n, none)])))⟩⟩
        { K with nx := fun s2 => forR tS pi1 (r.map sfD) s2 K, ct := fun s2 => forR tS pi1 (r.map sfD) s2 K, bk := K.nx } := by
        intro t9 t14 t15 e
        subst e
        refine ⟨(by first | decide | (refine Nat.le_trans ?_ sizeLine_big; first | (simp only [List.length_append, List.length_cons, List.length_nil, List.length_map]; omega) | (simp; omega)) | (refine Nat.lt_of_lt_of_le ?_ sizeLine_big; first | (simp only [List.length_append, List.length_cons, List.length_nil, List.length_map]; omega) | (simp; omega))), _, rfl, ?_⟩
        refine ite_no (by decide) ?_
        have e : stepP (lkI ws ns) p s = none := hstep
        rw [e] at go
        exact go _ _ _ _ _ _ _ _ _ _ hi2 hj2
      cases hG : gd with
      | nil => 
        rw [hG] at hg
        exact hg _ (.dat .non) _ rfl
      | cons g r' =>
        refine ⟨(by first | decide | (refine Nat.le_trans ?_ sizeLine_big; first | (simp only [List.length_append, List.length_cons, List.length_nil, List.length_map]; omega) | (simp; omega)) | (refine Nat.lt_of_lt_of_le ?_ sizeLine_big; first | (simp only [List.length_append, List.length_cons, List.length_nil, List.length_map]; omega) | (simp; omega))), _, rfl, ?_⟩
        refine ite_yes (by simp) ?_
        refine ⟨_, at0', _, at0', ?_⟩
        refine ⟨rfl, _, rfl, ?_⟩
        rw [hh]
        have hst : stepP (lkI ws ns) p s = some (g.1, if s.m = "slow" then minI ((g :: r').map (·.2)) else maxI ((g :: r').map (·.2))) := by
          rw [hstep, hG]
          rfl
        have pl2 : (pnK (p ++ [(s.n, none)])).length < sizeLine := Nat.lt_of_le_of_lt (show (pnK (p ++ [(s.n, none)])).length ≤ 9 by unfold pnK; rw [List.length_map, List.length_append, List.length_singleton]; omega) (by decide)
        have fin : ∀ (v : Int), v = (if s.m = "slow" then minI ((g :: r').map (·.2)) else maxI ((g :: r').map (·.2))) → ∀ t9 t14 t15 : Slot, forR tS pi1 (r.map sfD) ⟨[.dat (TS ws), s1, s2, .dat (.loc i), .dat (.loc j), .dat (.str s.n), .dat (.str s.m), .dat (.int s.w), .dat (.tup (s.ls.map lkD)), t9, t10, t11, t12, t13, t14, t15, t16, s17], ⟨n, (H.set i (.k (pnK (p ++ [(s.n, none)])))).set i (.k (putKD (pnK (p ++ [(s.n, none)])) (.inr s.n) (.tup [.int g.1, .int v])))⟩⟩ K := by
          intro v ev t9 t14 t15
          rw [show putKD (pnK (p ++ [(s.n, none)])) (.inr s.n) (.tup [.int g.1, .int v]) = pnK (p ++ [(s.n, some (g.1, v))]) from put_again hn (some (g.1, v)), List.set_set]
          rw [hst, ← ev] at go
          exact go _ _ _ _ _ _ _ _ _ _ (by rw [List.getElem?_set_self il1]) (by rw [List.getElem?_set_ne hij]; exact hj1)
        have em : ((g :: r').map fun q : Int × Int => D.int q.2) = ((g :: r').map (·.2)).map .int := by rw [List.map_map]; rfl
        rw [em]
        by_cases c : s.m = "slow"
        · refine ite_yes (by simp [c]) ?_
          refine ⟨(g :: r').map (·.2), rfl, by simp, fun m hm hu => ?_⟩
          exact ⟨(by first | decide | (refine Nat.le_trans ?_ sizeLine_big; first | (simp only [List.length_append, List.length_cons, List.length_nil, List.length_map]; omega) | (simp; omega)) | (refine Nat.lt_of_lt_of_le ?_ sizeLine_big; first | (simp only [List.length_append, List.length_cons, List.length_nil, List.length_map]; omega) | (simp; omega))), _, _, hi2, rfl, pl2, fin m (by rw [if_pos c, minI_eq hm hu]) _ _ _⟩
        · refine ite_no (by simp [c]) ?_
          refine ⟨(g :: r').map (·.2), rfl, by simp, fun m hm hu => ?_⟩
          exact ⟨(by first | decide | (refine Nat.le_trans ?_ sizeLine_big; first | (simp only [List.length_append, List.length_cons, List.length_nil, List.length_map]; omega) | (simp; omega)) | (refine Nat.lt_of_lt_of_le ?_ sizeLine_big; first | (simp only [List.length_append, List.length_cons, List.length_nil, List.length_map]; omega) | (simp; omega))), _, _, hi2, rfl, pl2, fin m (by rw [if_neg c, maxI_eq hm hu]) _ _ _⟩
    refine ⟨rfl, rfl, ?_⟩
    show pi1 ⟨[.dat (TS ws), s1, s2, .dat (.loc i), .dat (.loc j), .dat (.str s.n), .dat (.str s.m), .dat (.int s.w), .dat (.tup (s.ls.map lkD)), s9, s10, s11, s12, s13, s14, s15, s16, s17], ⟨n, hb⟩⟩ _
    refine ⟨_, rfl, ?_⟩
    by_cases c1 : s.m = "hand"
    · refine ite_no (by simp [c1]) ?_
      rw [if_pos c1] at es0
      subst es0
      exact ⟨(by first | decide | (refine Nat.le_trans ?_ sizeLine_big; first | (simp only [List.length_append, List.length_cons, List.length_nil, List.length_map]; omega) | (simp; omega)) | (refine Nat.lt_of_lt_of_le ?_ sizeLine_big; first | (simp only [List.length_append, List.length_cons, List.length_nil, List.length_map]; omega) | (simp; omega))), main s9⟩
    · refine ite_yes (by simp [beq_dec, c1]) ?_
      rw [if_neg c1] at es0
      subst es0
      exact ⟨(by first | decide | (refine Nat.le_trans ?_ sizeLine_big; first | (simp only [List.length_append, List.length_cons, List.length_nil, List.length_map]; omega) | (simp; omega)) | (refine Nat.lt_of_lt_of_le ?_ sizeLine_big; first | (simp only [List.length_append, List.length_cons, List.length_nil, List.length_map]; omega) | (simp; omega))), main s9⟩
theorem zip_fst {ws : List Str} : ∀ {ns : List Int}, ws.length = ns.length → (ws.zip ns).map (·.1) = ws := by
  induction ws with
  | nil => intro ns _; rfl
  | cons w ws ih =>
    intro ns h
    cases ns with
    | nil => simp at h
    | cons n ns => rw [List.zip_cons_cons, List.map_cons, ih (by simpa using h)]
theorem v_law_put_in (ds : List D) (st : Ms) (Q : D → Ms → Prop) (E : Exn → Ms → Prop) (h : F_law_put_in ds st Q E) : m_law_put_in ⟨startE nm_law_put_in.length ds, st⟩ (endsOf Q E) := by
  obtain ⟨ws, sh, ns, rfl, w1, w5, hd, hl, h8, hT, hq⟩ := h
  obtain ⟨n, hm⟩ := st
  show m_law_put_in ⟨[.dat (TS ws), .dat (.lst (sh.map sfD)), .dat (TI ns), .un, .un, .un, .un, .un, .un, .un, .un, .un, .un, .un, .un, .un, .un, .un], ⟨n, hm⟩⟩ (endsOf Q E)
  refine ⟨true, true, _, _, rfl, rfl, ?_⟩
  refine ⟨_, _, rfl, pairsK_zip ws ns, ?_⟩
  have hk : mergeKD [] ((ws.zip ns).map fun q => ((.inr q.1 : Key), D.int q.2)) = smK ws ns := merge_nodup _ [] (by
    rw [List.nil_append, List.map_map]
    have e : (ws.zip ns).map ((fun q : Key × D => q.1) ∘ fun q => ((.inr q.1 : Key), D.int q.2)) = ws.map fun z => (.inr z : Key) := by
      have := congrArg (List.map fun z => (Sum.inr z : Key)) (zip_fst (ws := ws) hl.symm)
      rw [List.map_map] at this
      exact this
    rw [e]
    exact List.pairwise_map.mpr (List.Pairwise.imp (fun hab e => hab (Sum.inr.inj e)) hd))
  rw [hk]
  show forR tS pi1 (sh.map sfD) ⟨[.dat (TS ws), .dat (.lst (sh.map sfD)), .dat (TI ns), .dat (.loc hm.length), .dat (.loc (hm ++ [Cell.k []]).length), .un, .un, .un, .un, .un, .un, .un, .un, .un, .un, .un, .un, .un], ⟨n, (hm ++ [Cell.k []]) ++ [Cell.k (smK ws ns)]⟩⟩ _
  refine pt_loop hl.symm (by simp) sh [] [] _ _ _ _ _ _ _ _ _ _ _ _ _ _ rfl hT (by simpa using h8) (by simp [pnK]) (by simp) fun h t5 t6 t7 t8 t9 t10 t11 t12 t13 t14 t15 t16 t17 hi => ?_
  exact ⟨_, hi, hq _⟩
end K11
namespace K11
open PySem L2 VL KL KM KP KT SS
theorem rep_f {d : D} (hc : cl d = true) (hd : dp d ≤ 60) (hw : wt d ≤ 1000000) : okR d = true ∧ (pyR d).depth ≤ 60 ∧ (reprD d).length ≤ sizeLine := by
  have := (repr_ok d hc).2
  exact ⟨cl_okR d hc, hd, Nat.le_trans (show _ ≤ 12000000 by omega) (by decide)⟩
theorem neP_str {x y : Str} {Q : D → Prop} (h : Q (.bl (!(x == y)))) : neP (.str x) (.str y) Q := h
/-- what a shaft does, told: small enough -/
theorem told_ok {ws : List Str} {sh : List Sft} (T : okTr ws sh) (h6 : sh.length ≤ 6) (x : Str) : ∀ q, lookF (turnF ws sh []) x = some q → (q.1 = 1 ∨ q.1 = -1) ∧ isSp ws.length 8 q.2 = true ∧ cl q.2 = true ∧ dp q.2 ≤ 16 ∧ wt q.2 ≤ 300000 := by
  intro q hq
  obtain ⟨k1, k5, _, _⟩ := okS_of T.s
  have F := turn_ok (ws := ws) sh [] [] okF.nil T.t (by simpa using T.n8)
  have ho := look_ok F.o x
  rw [hq] at ho
  have hw := turn_wt k5 sh [] [] 0 okF.nil T.t (by simpa using T.n8) (fun z hz => (nomatch hz))
  have hw' := look_wt hw x
  rw [hq] at hw'
  obtain ⟨w, s⟩ := q
  obtain ⟨h1, h2, h3⟩ := ho
  have hs8 : isSp ws.length 8 s = true := sp_le h2 (by simpa using T.n8)
  have hg : ∀ a b : Nat, a ≤ b → grt a ≤ grt b := fun a b h => by
    induction h with
    | refl => exact Nat.le_refl _
    | step _ ih => exact Nat.le_trans ih (grt_mono _)
  have h6' : grt (0 + sh.length) ≤ 300000 := Nat.le_trans (hg _ 6 (by omega)) (by decide)
  exact ⟨h1, hs8, clB_mono (Nat.le_trans (show _ ≤ 8 by simpa using T.n8) (by decide)) _ h3, Nat.le_trans (dp_sp 8 s hs8) (by decide), Nat.le_trans hw' h6'⟩
theorem pair_rep {ws : List Str} {sh : List Sft} (T : okTr ws sh) (h6 : sh.length ≤ 6) (x : Str) : okR (.tup [.int (wayOf (lookF (turnF ws sh []) x)), spdOf (lookF (turnF ws sh []) x)]) = true ∧ (pyR (.tup [.int (wayOf (lookF (turnF ws sh []) x)), spdOf (lookF (turnF ws sh []) x)])).depth ≤ 60 ∧ (reprD (.tup [.int (wayOf (lookF (turnF ws sh []) x)), spdOf (lookF (turnF ws sh []) x)])).length ≤ sizeLine := by
  cases h : lookF (turnF ws sh []) x with
  | none => exact ⟨by decide +kernel, by decide +kernel, by decide +kernel⟩
  | some q =>
    obtain ⟨h1, h2, h3, h4, h5⟩ := told_ok T h6 x q h
    obtain ⟨w, s⟩ := q
    refine rep_f ?_ ?_ ?_
    · simp only [clB, clBs, Bool.and_true, Bool.and_eq_true, decide_eq_true_eq, wayOf, spdOf]
      exact ⟨Nat.le_trans (show w.natAbs ≤ 1 by rcases h1 with rfl | rfl <;> decide) (by decide), h3⟩
    · refine Nat.le_trans (dp_tup (k := 16) fun d hd => ?_) (by decide)
      simp only [List.mem_cons, List.not_mem_nil, or_false] at hd
      rcases hd with rfl | rfl
      · simp [dp, pyR, PyData.depth]
      · exact h4
    · simp only [wt, wts, wayOf, spdOf]
      have : wt s ≤ 300000 := h5
      omega
abbrev lb1 : MS := (mSeq (mSet 11 (mIf (mTst (mOp (isD false) (mDGet (mVar 6) (mVar 7)) (mC .non))) (mC (.tup [.int 0, .non])) (mDGet (mVar 6) (mVar 7)))) (mIfS (mTst (mOp neP (mB reprQ (mCons (mTup (mCons (mMethM "Train" "way" 2 F_Train_way (mVar 5) (mCons (mVar 7) mNil)) (mCons (mMethM "Train" "speed" 2 F_Train_speed (mVar 5) (mCons (mVar 7) mNil)) mNil))) mNil)) (mB reprQ (mCons (mVar 11) mNil)))) (mRet (mC (.bl false))) mNext))
theorem l1_ok {ws : List Str} {sh : List Sft} {n : Nat} {K : VE} {s0 s1 s2 s4 s8 s9 s10 s12 s13 : Slot} (T : okTr ws sh) (h6 : sh.length ≤ 6) (s7 s11 : Slot) (h : List Cell)
    (hK : ∀ (t7 t11 : Slot) (m : List Cell), K.nx ⟨[s0, s1, s2, .dat (TS ws), s4, .dat (trS ws sh), .dat (.fdc (fndK (turnF ws sh []))), t7, s8, s9, s10, t11, s12, s13], ⟨n, m⟩⟩) :
    forR (gN 7) lb1 ((fndK (turnF ws sh [])).map fun q => keyD q.1) ⟨[s0, s1, s2, .dat (TS ws), s4, .dat (trS ws sh), .dat (.fdc (fndK (turnF ws sh []))), s7, s8, s9, s10, s11, s12, s13], ⟨n, h⟩⟩ K := by
  have hnm : (turnF ws sh []).map (·.1) = namesF sh := by rw [turn_names]; rfl
  refine forR_inv (fun items s => (∀ d ∈ items, ∃ x, d = .str x ∧ x ∈ namesF sh) ∧ ∃ (t7 t11 : Slot) (m : List Cell), s = ⟨[s0, s1, s2, .dat (TS ws), s4, .dat (trS ws sh), .dat (.fdc (fndK (turnF ws sh []))), t7, s8, s9, s10, t11, s12, s13], ⟨n, m⟩⟩) ?_ ?_ _ _ ⟨fun d hd => ?_, _, _, _, rfl⟩
  · rintro s ⟨_, t7, t11, m, rfl⟩
    exact hK _ _ _
  · rintro d dss s ⟨hi, t7, t11, m, rfl⟩ N hN
    obtain ⟨x, rfl, hx⟩ := hi d (by simp)
    have hg := getK_fnd (f := turnF ws sh []) (n := x) (by rw [hnm]; exact hx)
    have nx := fun (t11 : Slot) (m : List Cell) => hN ⟨[s0, s1, s2, .dat (TS ws), s4, .dat (trS ws sh), .dat (.fdc (fndK (turnF ws sh []))), .dat (.str x), s8, s9, s10, t11, s12, s13], ⟨n, m⟩⟩ ⟨fun d hd => hi d (List.mem_cons_of_mem _ hd), _, _, _, rfl⟩
    obtain ⟨p1, p2, p3⟩ := pair_rep T h6 x
    have two : ∀ due : D, due = .tup [.int (wayOf (lookF (turnF ws sh []) x)), spdOf (lookF (turnF ws sh []) x)] → (mIfS (mTst (mOp neP (mB reprQ (mCons (mTup (mCons (mMethM "Train" "way" 2 F_Train_way (mVar 5) (mCons (mVar 7) mNil)) (mCons (mMethM "Train" "speed" 2 F_Train_speed (mVar 5) (mCons (mVar 7) mNil)) mNil))) mNil)) (mB reprQ (mCons (mVar 11) mNil)))) (mRet (mC (.bl false))) mNext) ⟨[s0, s1, s2, .dat (TS ws), s4, .dat (trS ws sh), .dat (.fdc (fndK (turnF ws sh []))), .dat (.str x), s8, s9, s10, .dat due, s12, s13], ⟨n, m⟩⟩ { K with nx := N, ct := N, bk := K.nx } := by
      intro due e
      subst e
      have no : ∀ {P : Prop}, memD (namesF sh) (.str x) = false → P := fun {P} h => by
        have : memD (namesF sh) (.str x) = true := by
          unfold memD
          exact List.any_eq_true.mpr ⟨x, hx, by simp [isSt]⟩
        rw [this] at h; cases h
      refine ⟨⟨rfl, rfl⟩, rfl, ws, sh, .str x, rfl, T, rfl, fun h => no h, fun y hy hm => ?_⟩
      cases hy
      refine ⟨⟨rfl, rfl⟩, rfl, ws, sh, .str x, rfl, T, rfl, fun h => no h, fun y hy hm => ?_⟩
      cases hy
      refine ⟨(by first | decide | (refine Nat.le_trans ?_ sizeLine_big; first | (simp only [List.length_append, List.length_cons, List.length_nil, List.length_map]; omega) | (simp; omega)) | (refine Nat.lt_of_lt_of_le ?_ sizeLine_big; first | (simp only [List.length_append, List.length_cons, List.length_nil, List.length_map]; omega) | (simp; omega))), p1, p2, p3, p1, p2, p3, ?_⟩
      refine neP_str ?_
      rw [beq_self_eq_true]
      exact ⟨_, rfl, nx _ _⟩
    refine ⟨_, _, rfl, hg, ?_⟩
    refine ⟨_, rfl, ?_⟩
    cases q : lookF (turnF ws sh []) x with
    | none =>
      rw [q] at two
      exact ite_yes rfl (two _ rfl)
    | some z =>
      rw [q] at two hg
      refine ite_no (show ¬ (false ^^ false) = true by decide) ?_
      exact ⟨_, _, rfl, hg, two _ rfl⟩
  · obtain ⟨q, hq, rfl⟩ := List.mem_map.mp hd
    obtain ⟨y, hy, rfl⟩ := List.mem_map.mp hq
    exact ⟨y.1, rfl, by rw [← hnm]; exact List.mem_map_of_mem hy⟩
end K11
namespace K11
open PySem L2 VL KL KM KP KT SS
theorem memN {sh : List Sft} {x : Str} (hx : x ∈ namesF sh) {P : Prop} (h : memD (namesF sh) (.str x) = false) : P := by
  have : memD (namesF sh) (.str x) = true := by
    unfold memD
    exact List.any_eq_true.mpr ⟨x, hx, by simp [isSt]⟩
  rw [this] at h; cases h
theorem sLt_trans {x y z : Str} (h : sLt x y = true) (k : sLt y z = true) : sLt x z = true := decide_eq_true (List.lt_trans (of_decide_eq_true h) (of_decide_eq_true k))
theorem sLt_irr {x : Str} (h : sLt x x = true) : False := List.lt_irrefl _ (of_decide_eq_true h)
theorem chain_all : ∀ (p : Str) (r : List Str), ((p :: r).zip r).all (fun q => sLt q.1 q.2) = true → (∀ y ∈ r, sLt p y = true) ∧ (p :: r).Nodup
  | p, [], _ => ⟨fun _ h => (nomatch h), by simp⟩
  | p, x :: r, h => by
    rw [List.zip_cons_cons, List.all_cons, Bool.and_eq_true] at h
    obtain ⟨ih1, ih2⟩ := chain_all x r h.2
    have ha : ∀ y ∈ x :: r, sLt p y = true := fun y hy => by
      rcases List.mem_cons.mp hy with rfl | hy
      · exact h.1
      · exact sLt_trans h.1 (ih1 y hy)
    exact ⟨ha, List.nodup_cons.mpr ⟨fun hm => sLt_irr (ha p hm), ih2⟩⟩
theorem nodup_S {ws : List Str} (h : okS ws = true) : ws.Nodup := by
  obtain ⟨_, _, _, hc⟩ := okS_of h
  cases ws with
  | nil => exact List.nodup_nil
  | cons p r => exact (chain_all p r hc).2
abbrev lb2 : MS := (mIfS (mTst (mOp (isD false) (mDGet (mVar 11) (mVar 7)) (mC .non))) (mIfS (mOr (mTst (mOp (isD true) (mMethM "Train" "speed" 2 F_Train_speed (mVar 5) (mCons (mVar 7) mNil)) (mC .non))) (mTst (mOp neP (mMethM "Train" "way" 2 F_Train_way (mVar 5) (mCons (mVar 7) mNil)) (mC (.int 0))))) (mRet (mC (.bl false))) mNext) (mIfS (mTst (mOp neP (mTup (mCons (mMethM "Train" "way" 2 F_Train_way (mVar 5) (mCons (mVar 7) mNil)) (mCons (mCall 2 (F_law_weight 9) (mCons (mMethM "Train" "speed" 2 F_Train_speed (mVar 5) (mCons (mVar 7) mNil)) (mCons (mVar 12) mNil))) mNil))) (mDGet (mVar 11) (mVar 7)))) (mRet (mC (.bl false))) mNext))
theorem l2_ok {ws : List Str} {sh : List Sft} {ns : List Int} {n : Nat} {K : VE} {s0 s1 s2 s4 s6 s8 s9 s10 s13 : Slot} (T : okTr ws sh) (h6 : sh.length ≤ 6) (hl : ns.length = ws.length) (hs5 : sm5 ns) (s7 : Slot) (h : List Cell)
    (hK : ∀ (t7 : Slot) (m : List Cell), K.nx ⟨[s0, s1, s2, .dat (TS ws), s4, .dat (trS ws sh), s6, t7, s8, s9, s10, .dat (.fdc (pnK (wF ns (turnF ws sh [])))), .dat (TI ns), s13], ⟨n, m⟩⟩) :
    forR (gN 7) lb2 ((pnK (wF ns (turnF ws sh []))).map fun q => keyD q.1) ⟨[s0, s1, s2, .dat (TS ws), s4, .dat (trS ws sh), s6, s7, s8, s9, s10, .dat (.fdc (pnK (wF ns (turnF ws sh [])))), .dat (TI ns), s13], ⟨n, h⟩⟩ K := by
  have hnm : (turnF ws sh []).map (·.1) = namesF sh := by rw [turn_names]; rfl
  have hnw : (wF ns (turnF ws sh [])).map (·.1) = namesF sh := by
    unfold wF
    rw [List.map_map]
    exact hnm
  obtain ⟨k1, k5, _, _⟩ := okS_of T.s
  refine forR_inv (fun items s => (∀ d ∈ items, ∃ x, d = .str x ∧ x ∈ namesF sh) ∧ ∃ (t7 : Slot) (m : List Cell), s = ⟨[s0, s1, s2, .dat (TS ws), s4, .dat (trS ws sh), s6, t7, s8, s9, s10, .dat (.fdc (pnK (wF ns (turnF ws sh [])))), .dat (TI ns), s13], ⟨n, m⟩⟩) ?_ ?_ _ _ ⟨fun d hd => ?_, _, _, rfl⟩
  · rintro s ⟨_, t7, m, rfl⟩
    exact hK _ _
  · rintro d dss s ⟨hi, t7, m, rfl⟩ N hN
    obtain ⟨x, rfl, hx⟩ := hi d (by simp)
    have hg := getK_pn (p := wF ns (turnF ws sh [])) (n := x) (by rw [hnw]; exact hx)
    rw [look_w] at hg
    have nx := fun (m : List Cell) => hN ⟨[s0, s1, s2, .dat (TS ws), s4, .dat (trS ws sh), s6, .dat (.str x), s8, s9, s10, .dat (.fdc (pnK (wF ns (turnF ws sh [])))), .dat (TI ns), s13], ⟨n, m⟩⟩ ⟨fun d hd => hi d (List.mem_cons_of_mem _ hd), _, _, rfl⟩
    have ht := told_ok T h6 x
    refine ⟨_, _, rfl, hg, ?_⟩
    refine ⟨_, rfl, ?_⟩
    cases q : lookF (turnF ws sh []) x with
    | none =>
      refine ite_yes rfl ?_
      refine ⟨⟨rfl, rfl⟩, rfl, ws, sh, .str x, rfl, T, rfl, fun h => memN hx h, fun y hy hm => ?_⟩
      cases hy
      rw [q]
      refine ⟨_, rfl, ?_⟩
      refine ite_no (show ¬ (true ^^ true) = true by decide) ?_
      refine ⟨⟨rfl, rfl⟩, rfl, ws, sh, .str x, rfl, T, rfl, fun h => memN hx h, fun y hy hm => ?_⟩
      cases hy
      rw [q]
      exact ⟨_, rfl, nx _⟩
    | some z =>
      rw [q] at hg
      obtain ⟨w1, h8, hc, hd, hw⟩ := ht z q
      refine ite_no (show ¬ (false ^^ false) = true by decide) ?_
      refine ⟨⟨rfl, rfl⟩, rfl, ws, sh, .str x, rfl, T, rfl, fun h => memN hx h, fun y hy hm => ?_⟩
      cases hy
      refine ⟨⟨rfl, rfl⟩, rfl, ws, sh, .str x, rfl, T, rfl, fun h => memN hx h, fun y hy hm => ?_⟩
      cases hy
      rw [q]
      refine ⟨rfl, ws.length, z.2, ns, rfl, by omega, hl, hs5, h8, ?_⟩
      refine ⟨(by first | decide | (refine Nat.le_trans ?_ sizeLine_big; first | (simp only [List.length_append, List.length_cons, List.length_nil, List.length_map]; omega) | (simp; omega)) | (refine Nat.lt_of_lt_of_le ?_ sizeLine_big; first | (simp only [List.length_append, List.length_cons, List.length_nil, List.length_map]; omega) | (simp; omega))), _, _, rfl, hg, ?_⟩
      show neP (.tup [.int z.1, .int (weightD ns 8 z.2)]) (.tup [.int z.1, .int (weightD ns 8 z.2)]) _
      refine ⟨⟨rfl, rfl⟩, _, rfl, ?_⟩
      refine ite_no (by rw [eqv_self rfl]; decide) ?_
      exact nx _
  · obtain ⟨q, hq, rfl⟩ := List.mem_map.mp hd
    obtain ⟨y, hy, rfl⟩ := List.mem_map.mp hq
    exact ⟨y.1, rfl, by rw [← hnw]; exact List.mem_map_of_mem hy⟩
end K11
namespace K11
open PySem L2 VL KL KM KP KT SS
theorem v_law_caught (f : Addr) (th : Th) (st : Ms) (Q : D → Ms → Prop) (E : Exn → Ms → Prop) (h : F_law_caught th st Q E) : m_law_caught f th ⟨startE nm_law_caught.length [.adr f], st⟩ (endsOf Q E) := by
  show m_law_caught f th ⟨[.dat (.adr f), .un], st⟩ (endsOf Q E)
  refine ⟨rfl, h _ _ (fun d st' q => q) (fun d st' r1 r2 r3 q => ?_)⟩
  refine ⟨show (Str.ofString "BadNumber") ∈ tab.L by decide, ?_⟩
  simp only [hdX]
  rw [if_pos (by decide)]
  exact ⟨by decide, d, rfl, r1, r2, r3, q⟩
theorem turn_app {ws : List Str} : ∀ (a b : List Sft) (f : Fnd), turnF ws (a ++ b) f = turnF ws b (turnF ws a f)
  | [], _, _ => rfl
  | s :: r, b, f => by
    show turnF ws (r ++ b) _ = turnF ws b (turnF ws r _)
    exact turn_app r b _
theorem look_more {ws : List Str} {x : Str} : ∀ (b : List Sft) (f : Fnd), x ∈ f.map (·.1) → lookF (turnF ws b f) x = lookF f x
  | [], _, _ => rfl
  | s :: r, f, h => by
    show lookF (turnF ws r (f ++ [(s.n, stepF ws f s)])) x = _
    rw [look_more r _ (by rw [List.map_append]; exact List.mem_append.mpr (.inl h))]
    unfold lookF
    rw [List.find?_append]
    cases e : f.find? fun q => decide (q.1 = x) with
    | some q => rfl
    | none =>
      obtain ⟨q, hq, rfl⟩ := List.mem_map.mp h
      have := List.find?_eq_none.mp e q hq
      simp at this
theorem look_take {ws : List Str} {sh : List Sft} {k : Nat} {x : Str} (hx : x ∈ namesF (sh.take k)) : lookF (turnF ws sh []) x = lookF (turnF ws (sh.take k) []) x := by
  conv => lhs; rw [← List.take_append_drop k sh]
  rw [turn_app]
  exact look_more _ _ (by rw [turn_names]; simpa using hx)
end K11
namespace KT
open PySem L2 VL KL KM KP SS
theorem memD_str {xs : List Str} {d : D} (h : memD xs d = true) : ∃ x, d = .str x ∧ x ∈ xs := by
  obtain ⟨z, hz, e⟩ := List.any_eq_true.mp h
  exact ⟨z, isSt_eq e, hz⟩
theorem link_is {ws ns : List Str} {x : D} (h : linkD ws ns x = true) : ∃ l, x = lkD l ∧ okLk ws ns l := by
  unfold linkD at h
  split at h
  · simp only [Bool.and_eq_true] at h
    obtain ⟨h1, h2, h3, h4⟩ := h
    obtain ⟨n, rfl, n1⟩ := memD_str h1
    obtain ⟨a, rfl, a1⟩ := memD_str h2
    obtain ⟨b, rfl, b1⟩ := memD_str h3
    obtain ⟨k, rfl, k1⟩ := memD_str h4
    exact ⟨⟨n, a, b, k⟩, rfl, n1, a1, b1, k1⟩
  · cases h
theorem links_is {ws ns : List Str} : ∀ {es : List D}, es.all (linkD ws ns) = true → ∃ ls : List Lnk, es = ls.map lkD ∧ ∀ l ∈ ls, okLk ws ns l
  | [], _ => ⟨[], rfl, fun _ z => (nomatch z)⟩
  | x :: es, h => by
    rw [List.all_cons, Bool.and_eq_true] at h
    obtain ⟨l, rfl, h1⟩ := link_is h.1
    obtain ⟨ls, rfl, h2⟩ := links_is h.2
    refine ⟨l :: ls, rfl, fun y hy => ?_⟩
    rcases List.mem_cons.mp hy with rfl | hy
    · exact h1
    · exact h2 y hy
theorem lns_is {ws ns : List Str} {m : Nat} {l : D} (h : linksD ws ns m l = true) : ∃ ls : List Lnk, l = .tup (ls.map lkD) ∧ (∀ l ∈ ls, okLk ws ns l) ∧ 1 ≤ ls.length ∧ ls.length ≤ m := by
  unfold linksD at h
  split at h
  · simp only [Bool.and_eq_true, decide_eq_true_eq] at h
    obtain ⟨ls, rfl, h2⟩ := links_is h.2
    rw [List.length_map] at h
    exact ⟨ls, rfl, h2, h.1.1, h.1.2⟩
  · cases h
theorem shaft_is {ws ns : List Str} {x : D} (h : shaftD ws ns x = true) : ∃ s, x = sfD s ∧ okSf ws ns s := by
  unfold shaftD at h
  split at h
  · rename_i a m w l
    rw [Bool.and_eq_true, Bool.and_eq_true] at h
    obtain ⟨⟨h1, h2⟩, h3⟩ := h
    obtain ⟨n, rfl⟩ := isWord_str h1
    have hn : n ∉ ns := fun z => by
      rw [memD_mem z] at h2
      cases h2
    split at h3
    · rename_i i
      unfold restD at h3
      split at h3
      · rename_i he
        simp only [Bool.and_eq_true, beq_iff_eq] at h3
        obtain ⟨⟨e1, e2⟩, e3⟩ := h3
        have := isSt_eq e1
        subst this
        subst e2
        have hl : l = .tup [] := by
          unfold isNil at e3
          split at e3
          · rfl
          · cases e3
        subst hl
        have hns : ns = [] := by
          cases ns
          · rfl
          · cases he
        exact ⟨⟨n, "hand", 1, []⟩, rfl, h1, hn, fun _ z => (nomatch z), fun _ => ⟨rfl, rfl, rfl⟩, fun z => absurd hns z⟩
      · rename_i he
        have hns : ns ≠ [] := fun z => he (by rw [z]; rfl)
        split at h3
        · rename_i hf
          have := isSt_eq hf
          subst this
          simp only [Bool.and_eq_true, beq_iff_eq] at h3
          obtain ⟨e1, e2⟩ := h3
          subst e1
          obtain ⟨ls, rfl, g1, g2, g3⟩ := lns_is e2
          exact ⟨⟨n, "fixed", 0, ls⟩, rfl, h1, hn, g1, fun z => absurd z hns, fun _ => .inl ⟨rfl, rfl, by show ls.length = 1; omega⟩⟩
        · simp only [Bool.and_eq_true, Bool.or_eq_true, beq_iff_eq] at h3
          obtain ⟨e1, e2, e3⟩ := h3
          obtain ⟨ls, rfl, g1, g2, g3⟩ := lns_is e3
          rcases e1 with e1 | e1
          · have := isSt_eq e1
            subst this
            exact ⟨⟨n, "fast", i, ls⟩, rfl, h1, hn, g1, fun z => absurd z hns, fun _ => .inr ⟨.inl rfl, e2, g2, g3⟩⟩
          · have := isSt_eq e1
            subst this
            exact ⟨⟨n, "slow", i, ls⟩, rfl, h1, hn, g1, fun z => absurd z hns, fun _ => .inr ⟨.inr rfl, e2, g2, g3⟩⟩
    · cases h3
  · cases h
theorem bad_is {ws : List Str} : ∀ {xs : List D} {ns : List Str} {i : Nat}, badS ws ns xs i = none → ∃ sh : List Sft, xs = sh.map sfD ∧ okT ws ns sh
  | [], _, _, _ => ⟨[], rfl, trivial⟩
  | x :: xs, ns, i, h => by
    rw [badS] at h
    split at h
    · rename_i hs
      obtain ⟨s, rfl, h1⟩ := shaft_is hs
      obtain ⟨sh, rfl, h2⟩ := bad_is h
      exact ⟨s :: sh, rfl, h1, h2⟩
    · cases h
theorem ok_link {ws ns : List Str} {l : Lnk} (h : okLk ws ns l) : linkD ws ns (lkD l) = true := by
  show (memD _ _ && (memD _ _ && (memD _ _ && memD _ _))) = true
  rw [memD_mem h.n, memD_mem h.a, memD_mem h.b, memD_mem h.k]
  rfl
theorem memD_not {xs : List Str} {x : Str} (h : x ∉ xs) : memD xs (.str x) = false := by
  cases e : memD xs (.str x) with
  | false => rfl
  | true => exact absurd (memD_in e) h
theorem ok_shaft {ws ns : List Str} {s : Sft} (h : okSf ws ns s) : shaftD ws ns (sfD s) = true := by
  obtain ⟨n, m, w, ls⟩ := s
  have hall : (ls.map lkD).all (linkD ws ns) = true := List.all_eq_true.mpr fun x hx => by
    obtain ⟨l, hl, rfl⟩ := List.mem_map.mp hx
    exact ok_link (h.ls l hl)
  show ((isWord (.str n) && !memD ns (.str n)) && restD ws ns (.str m) w (.tup (ls.map lkD))) = true
  have h1 : isWord (.str n) = true := h.w
  have h2 : n ∉ ns := h.n
  rw [h1, memD_not h2]
  have elk : ∀ most, linksD ws ns most (.tup (ls.map lkD)) = ((decide (1 ≤ ls.length) && decide (ls.length ≤ most)) && (ls.map lkD).all (linkD ws ns)) := fun most => by
    show ((decide (1 ≤ (ls.map lkD).length) && decide ((ls.map lkD).length ≤ most)) && _) = _
    rw [List.length_map]
  unfold restD
  by_cases q : ns = []
  · obtain ⟨e1, e2, e3⟩ := h.h q
    dsimp only at e1 e2 e3
    subst e1 e2 e3 q
    rfl
  · have hne : ns.isEmpty = false := by
      cases ns
      · exact absurd rfl q
      · rfl
    rw [hne, elk, elk, hall]
    rcases h.o q with ⟨e1, e2, e3⟩ | ⟨e1, e2, e3, e4⟩
    · dsimp only at e1 e2 e3
      rw [e1, e2, e3]
      generalize isNil (D.tup (ls.map lkD)) = u
      revert u
      decide +kernel
    · dsimp only at e1 e2 e3 e4
      rw [decide_eq_true e3, decide_eq_true e4]
      generalize isNil (D.tup (ls.map lkD)) = u
      generalize decide (ls.length ≤ 1) = v
      revert u v
      rcases e1 with rfl | rfl <;> rcases e2 with rfl | rfl <;> decide +kernel
theorem ok_bad {ws : List Str} : ∀ {sh : List Sft} {ns : List Str} {i : Nat}, okT ws ns sh → badS ws ns (sh.map sfD) i = none
  | [], _, _, _ => rfl
  | s :: r, ns, i, h => by
    rw [List.map_cons, badS, if_pos (ok_shaft h.1)]
    exact ok_bad h.2
theorem lk_bd {ws ns : List Str} {l : Lnk} (hw : ∀ y ∈ ws, isWord (.str y) = true) (hn : ∀ y ∈ ns, isWord (.str y) = true) (h : okLk ws ns l) : clB 5 (lkD l) = true ∧ dp (lkD l) ≤ 1 ∧ wt (lkD l) ≤ 40 := by
  obtain ⟨a1, a2, a3⟩ := word_bd (hn _ h.n)
  obtain ⟨b1, b2, b3⟩ := word_bd (hw _ h.a)
  obtain ⟨c1, c2, c3⟩ := word_bd (hw _ h.b)
  obtain ⟨d1, d2, d3⟩ := kd_bd h.k
  have o : KP.Ok 5 0 36 [D.str l.n, .str l.a, .str l.b, .str l.k] := ((Ok.one a1 a2 a3).app ((Ok.one b1 b2 b3).app ((Ok.one c1 c2 c3).app (Ok.one d1 d2 d3)))).mono (Nat.le_refl _) (Nat.le_refl _) (by decide)
  obtain ⟨e1, e2, e3⟩ := o.tup
  exact ⟨e1, Nat.le_trans e2 (by omega), Nat.le_trans e3 (by omega)⟩
theorem sf_bd {ws ns : List Str} {s : Sft} (hw : ∀ y ∈ ws, isWord (.str y) = true) (hn : ∀ y ∈ ns, isWord (.str y) = true) (h : okSf ws ns s) : clB 5 (sfD s) = true ∧ dp (sfD s) ≤ 3 ∧ wt (sfD s) ≤ 400 := by
  obtain ⟨n, m, w, ls⟩ := s
  have hmw : (clB 5 (.str m) = true ∧ dp (.str m) ≤ 0 ∧ wt (.str m) ≤ 9) ∧ w.natAbs ≤ 5 ∧ ls.length ≤ 3 := by
    by_cases q : ns = []
    · obtain ⟨e1, e2, e3⟩ := h.h q
      dsimp only at e1 e2 e3
      rw [e1, e2, e3]
      exact ⟨word_bd (by decide +kernel), by decide, by decide⟩
    · rcases h.o q with ⟨e1, e2, e3⟩ | ⟨e1, e2, e3, e4⟩
      · dsimp only at e1 e2 e3
        rw [e1, e2, e3]
        exact ⟨word_bd (by decide +kernel), by decide, by decide⟩
      · dsimp only at e1 e2 e3 e4
        refine ⟨?_, by rcases e2 with rfl | rfl <;> decide, e4⟩
        rcases e1 with rfl | rfl <;> exact word_bd (by decide +kernel)
  obtain ⟨⟨m1, m2, m3⟩, hi, l3⟩ := hmw
  obtain ⟨n3, n5, n4⟩ := word_bd (x := n) h.w
  have hll : (ls.map lkD).length = ls.length := List.length_map ..
  obtain ⟨r1, r2, r3⟩ := (links_row (b := 5) (k := 1) (w := 40) (ds := ls.map lkD) fun x hx => by
    obtain ⟨l, hl, rfl⟩ := List.mem_map.mp hx
    exact lk_bd hw hn (h.ls l hl)).tup
  have o : KP.Ok 5 2 300 [D.str n, .str m, .int w, .tup (ls.map lkD)] := ((Ok.one (k := 2) (w := 9) n3 (by omega) n4).app ((Ok.one (k := 2) (w := 9) m1 (by omega) m3).app ((Ok.one (k := 2) (w := 70) (d := .int w) (by simp only [clB, decide_eq_true_eq]; exact hi) (by simp [dp, pyR, PyData.depth]) (by simp [wt])).app (Ok.one (k := 2) (w := 121) r1 (by omega) (by omega))))).mono (Nat.le_refl _) (Nat.le_refl _) (by omega)
  obtain ⟨e1, e2, e3⟩ := o.tup
  exact ⟨e1, Nat.le_trans e2 (by omega), Nat.le_trans e3 (by omega)⟩
theorem ok_bd {ws : List Str} (hw : ∀ y ∈ ws, isWord (.str y) = true) : ∀ {sh : List Sft} {ns : List Str}, (∀ y ∈ ns, isWord (.str y) = true) → okT ws ns sh → ∀ x ∈ sh.map sfD, clB 5 x = true ∧ dp x ≤ 3 ∧ wt x ≤ 400
  | [], _, _, _, x, hx => by cases hx
  | s :: r, ns, hn, h, x, hx => by
    rw [List.map_cons] at hx
    rcases List.mem_cons.mp hx with rfl | hx
    · exact sf_bd hw hn h.1
    · refine ok_bd hw (ns := ns ++ [s.n]) (fun y hy => ?_) h.2 x hx
      rcases List.mem_append.mp hy with hy | hy
      · exact hn y hy
      · rw [List.mem_singleton.mp hy]; exact h.1.w
theorem train_ok {ws : List Str} {sh : List Sft} {e : D} {t : Bool} {st : Ms} {Q : List (Str × D) → Ms → Prop} {E : Exn → Ms → Prop} (T : okTr ws sh) (hse : e = (if t = true then D.tup (sh.map sfD) else D.lst (sh.map sfD))) (hq : Q (trF (TS ws) (.tup (sh.map sfD))) st) : F_Trainu_initu [TS ws, e] st Q E := by
  have hw : ∀ y ∈ ws, isWord (.str y) = true := by
    obtain ⟨_, _, h, _⟩ := okS_of T.s
    exact h
  have hl : (sh.map sfD).length = sh.length := List.length_map ..
  have n8 := T.n8
  have n1 := T.n1
  have r := links_row (b := 5) (k := 3) (w := 400) (ok_bd hw (ns := []) (fun _ z => (nomatch z)) T.t)
  have r' : KP.Ok 5 3 3200 (sh.map sfD) := r.mono (Nat.le_refl _) (Nat.le_refl _) (by omega)
  obtain ⟨a1, a2, a3⟩ := r'.tup
  obtain ⟨b1, b2, b3⟩ := r'.lst
  subst hse
  cases t
  · exact init_ok T.s ⟨clB_mono (by decide) _ b1, Nat.le_trans b3 (by decide)⟩ (t := false) rfl (by omega) (by omega) (ok_bad T.t) hq
  · exact init_ok T.s ⟨clB_mono (by decide) _ a1, Nat.le_trans a3 (by decide)⟩ (t := true) rfl (by omega) (by omega) (ok_bad T.t) hq
theorem okT_take {ws : List Str} : ∀ {sh : List Sft} {ns : List Str} (k : Nat), okT ws ns sh → okT ws ns (sh.take k)
  | [], _, _, _ => by rw [List.take_nil]; trivial
  | s :: r, _, 0, _ => trivial
  | s :: r, _, k + 1, h => ⟨h.1, okT_take k h.2⟩
theorem okTr.take {ws : List Str} {sh : List Sft} {k : Nat} (T : okTr ws sh) (h1 : 1 ≤ k) (h2 : k ≤ sh.length) : okTr ws (sh.take k) := by
  have hl : (sh.take k).length = k := by rw [List.length_take]; omega
  have := T.n8
  exact ⟨T.s, by omega, by omega, okT_take k T.t⟩
theorem v_Train_only (ds : List D) (st : Ms) (Q : D → Ms → Prop) (E : Exn → Ms → Prop) (h : F_Train_only ds st Q E) : m_Train_only ⟨startE sz_Train_only ds, st⟩ (endsOf Q E) := by
  obtain ⟨ws, sh, d, rfl, T, ht, hq, he⟩ := h
  show m_Train_only ⟨[.dat (trS ws sh), .dat d], st⟩ (endsOf Q E)
  have hlm : (sh.map sfD).length = sh.length := List.length_map ..
  refine ⟨rfl, _, rfl, rfl, d, 1, _, rfl, ht, ?_⟩
  rw [hlm]
  show (if (!among 1 sh.length d) = true then _ else _)
  refine not_if (fun h => ?_) (fun h => ?_)
  · obtain ⟨k, rfl, h1, h2⟩ : ∃ k : Nat, d = .int k ∧ 1 ≤ k ∧ k ≤ sh.length := by
      cases d <;> first | (cases h; done) | skip
      rename_i i
      simp only [among, Bool.and_eq_true, decide_eq_true_eq] at h
      exact ⟨i.toNat, by rw [Int.toNat_of_nonneg (by omega)], by omega, by omega⟩
    have hc := KL.cut_to (sh.map sfD) (i := k) (by rw [hlm]; exact h2)
    refine ⟨rfl, _, rfl, rfl, _, rfl, rfl, ?_⟩
    rw [hc, ← List.map_take]
    exact train_ok (t := true) (T.take h1 h2) rfl (hq k rfl h1 h2)
  · exact he h
end KT
namespace KT
open PySem L2 VL KL KM KP SS
theorem compR_mapS {T : Type} {e : List Slot} {tgt : MG} {me : M D} {n : Nat} {Q : List D → Ms → Prop} (enc f : T → D) : ∀ (xs : List T) (acc : List D) (h : List Cell), acc.length + xs.length ≤ 1000000 →
    (∀ x ∈ xs, ∀ h : List Cell, ∀ q : D → Ms → Prop, (∀ h', q (f x) ⟨n, h'⟩) → tgt (enc x) ⟨e, ⟨n, h⟩⟩ fun s1 => me s1 (fun y s3 => q y s3.n) fun _ _ => False) → (∀ h', Q (acc ++ xs.map f) ⟨n, h'⟩) → compR e tgt mYes me (xs.map enc) ⟨n, h⟩ acc Q
  | [], acc, hh, _, _, h => by simpa [compR] using h hh
  | x :: xs, acc, hh, hl, hs, h => by
    rw [List.length_cons] at hl
    refine hs x (by simp) hh (fun y n' => acc.length < sizeLine ∧ compR e tgt mYes me (xs.map enc) n' (acc ++ [y]) Q) fun h' => ⟨Nat.lt_of_le_of_lt (show acc.length ≤ 1000000 by omega) (by decide), ?_⟩
    exact compR_mapS enc f xs (acc ++ [f x]) h' (by rw [List.length_append, List.length_singleton]; omega) (fun y hy => hs y (by simp [hy])) fun h'' => by simpa using h h''
end KT
namespace K11
open PySem L2 VL KL KM KP KT SS
theorem okT_take {ws : List Str} : ∀ (sh : List Sft) (ns : List Str) (k : Nat), okT ws ns sh → okT ws ns (sh.take k)
  | [], ns, k, _ => by rw [List.take_nil]; trivial
  | s :: r, ns, 0, _ => trivial
  | s :: r, ns, k + 1, h => by
    rw [List.take_succ_cons]
    exact ⟨h.1, okT_take r _ k h.2⟩
theorem okTr_take {ws : List Str} {sh : List Sft} {k : Nat} (T : okTr ws sh) (h1 : 1 ≤ k) : okTr ws (sh.take k) := ⟨T.s, by rw [List.length_take]; have := T.n1; omega, by rw [List.length_take]; have := T.n8; omega, okT_take sh [] k T.t⟩
theorem spd_rep {ws : List Str} {sh : List Sft} (T : okTr ws sh) (h6 : sh.length ≤ 6) (x : Str) : okR (spdOf (lookF (turnF ws sh []) x)) = true ∧ (pyR (spdOf (lookF (turnF ws sh []) x))).depth ≤ 60 ∧ (reprD (spdOf (lookF (turnF ws sh []) x))).length ≤ sizeLine := by
  cases h : lookF (turnF ws sh []) x with
  | none => exact ⟨by decide +kernel, by decide +kernel, by decide +kernel⟩
  | some q =>
    obtain ⟨h1, h2, h3, h4, h5⟩ := told_ok T h6 x q h
    exact rep_f h3 (Nat.le_trans h4 (by decide)) (Nat.le_trans h5 (by decide))
theorem spd_str {ws : List Str} {sh : List Sft} (T : okTr ws sh) (h6 : sh.length ≤ 6) (x : Str) : PyData.strOk (reprD (spdOf (lookF (turnF ws sh []) x))) = true := by
  cases h : lookF (turnF ws sh []) x with
  | none => decide +kernel
  | some q => exact (repr_ok q.2 (told_ok T h6 x q h).2.2.1).1
theorem names_sf (sh : List Sft) : ((sh.map sfD).map fun x => D.str (nameOf x)) = (namesF sh).map .str := by
  unfold namesF
  rw [List.map_map, List.map_map]
  rfl
theorem rows_sf (sh : List Sft) : ∀ x ∈ sh.map sfD, rowS x := fun x hx => by
  obtain ⟨s, _, rfl⟩ := List.mem_map.mp hx
  exact ⟨s.n, _, _, _, rfl⟩
abbrev lb4 : MS := (mIfS (mTst (mOp neP (mComp [7] (mIt itT (mMethM "Train" "names" 1 F_Train_names (mVar 9) mNil)) (gN 7) mYes (mB reprQ (mCons (mMethM "Train" "speed" 2 F_Train_speed (mVar 9) (mCons (mVar 7) mNil)) mNil))) (mComp [7] (mIt itT (mMethM "Train" "names" 1 F_Train_names (mVar 9) mNil)) (gN 7) mYes (mB reprQ (mCons (mMethM "Train" "speed" 2 F_Train_speed (mVar 5) (mCons (mVar 7) mNil)) mNil))))) (mRet (mC (.bl false))) mNext)
theorem l4_ok {ws : List Str} {sh : List Sft} {k n : Nat} {K : VE} {s0 s1 s2 s4 s6 s7 s8 s10 s11 s12 s13 : Slot} (T : okTr ws sh) (h6 : sh.length ≤ 6) (k1 : 1 ≤ k) (h : List Cell)
    (hK : ∀ (m : List Cell), K.nx ⟨[s0, s1, s2, .dat (TS ws), s4, .dat (trS ws sh), s6, s7, s8, .dat (trS ws (sh.take k)), s10, s11, s12, s13], ⟨n, m⟩⟩) :
    lb4 ⟨[s0, s1, s2, .dat (TS ws), s4, .dat (trS ws sh), s6, s7, s8, .dat (trS ws (sh.take k)), s10, s11, s12, s13], ⟨n, h⟩⟩ K := by
  have Tk := okTr_take T k1
  have hk6 : (sh.take k).length ≤ 6 := by rw [List.length_take]; omega
  refine ⟨⟨rfl, rfl⟩, rfl, TS ws, (sh.take k).map sfD, rfl, by rw [List.length_map]; omega, rows_sf _, ?_⟩
  rw [names_sf]
  let g : Str → D := fun x => .str (reprD (spdOf (lookF (turnF ws sh []) x)))
  have dl : deepOk (.lst ((namesF (sh.take k)).map g)) = true := by
    refine deep_of (n := 5) ⟨?_, ?_⟩ (by decide)
    · show goods _ = true
      rw [goods_iff]
      intro d hd
      obtain ⟨x, _, rfl⟩ := List.mem_map.mp hd
      exact spd_str T h6 x
    · have := depthAll_le (n := 1) (ds := (namesF (sh.take k)).map g) fun d hd => by
        obtain ⟨x, _, rfl⟩ := List.mem_map.mp hd
        simp [g, py, PyData.depth]
      simp only [py, PyData.depth]
      omega
  show compR _ _ _ _ ((namesF (sh.take k)).map .str) _ [] _
  refine compR_mapS D.str g (namesF (sh.take k)) [] h (by simp [namesF]; omega) (fun x hx m q hq => ?_) fun m1 => ?_
  · refine ⟨⟨rfl, rfl⟩, rfl, ws, sh.take k, .str x, rfl, Tk, rfl, fun z => memN hx z, fun y hy hm => ?_⟩
    cases hy
    obtain ⟨r1, r2, r3⟩ := spd_rep Tk hk6 x
    refine ⟨r1, r2, r3, ?_⟩
    rw [← look_take hx]
    exact hq _
  rw [List.nil_append]
  refine ⟨⟨rfl, rfl⟩, rfl, TS ws, (sh.take k).map sfD, rfl, by rw [List.length_map]; omega, rows_sf _, ?_⟩
  rw [names_sf]
  show compR _ _ _ _ ((namesF (sh.take k)).map .str) _ [] _
  refine compR_mapS D.str g (namesF (sh.take k)) [] m1 (by simp [namesF]; omega) (fun x hx m q hq => ?_) fun m2 => ?_
  · have hx' : x ∈ namesF sh := by
      obtain ⟨s, hs, rfl⟩ := List.mem_map.mp hx
      exact List.mem_map_of_mem (List.mem_of_mem_take hs)
    refine ⟨⟨rfl, rfl⟩, rfl, ws, sh, .str x, rfl, T, rfl, fun z => memN hx' z, fun y hy hm => ?_⟩
    cases hy
    obtain ⟨r1, r2, r3⟩ := spd_rep T h6 x
    exact ⟨r1, r2, r3, hq _⟩
  rw [List.nil_append]
  refine ⟨⟨dl, dl⟩, _, rfl, ?_⟩
  refine ite_no (by rw [eqv_self (good_of dl)]; decide) ?_
  exact hK _
end K11
namespace K11
open PySem L2 VL KL KM KP KT SS
theorem odd_kn : ∀ d ∈ odds, knD d = true := fun d hd => by
  have h : odds.all knD = true := by decide +kernel
  exact List.all_eq_true.mp h d hd
theorem caught_ok {ws : List Str} {sh : List Sft} {d : D} {e : List Slot} {n : Nat} {h : List Cell} {Q : D → VS → Prop} {E : Exn → VS → Prop} {w : Bool} (T : okTr ws sh) (hc : clB (10 ^ 30) d = true) (hd : dp d ≤ 2) (hw : wt d ≤ 200) (h5 : (e.map shut)[5]? = some (.dat (trS ws sh))) (h10 : (e.map shut)[10]? = some (.dat d))
    (hq : ∀ m, Q (if memD (namesF sh) d = true then .non else .str (reprD d)) ⟨e, ⟨n, m⟩⟩) : mLam F_law_caught (if w = true then mMethM "Train" "way" 2 F_Train_way (mVar 5) (mCons (mVar 10) mNil) else mMethM "Train" "speed" 2 F_Train_speed (mVar 5) (mCons (mVar 10) mNil)) ⟨e, ⟨n, h⟩⟩ Q E := by
  have cd : cl d = true := clB_mono (by decide) d hc
  obtain ⟨r1, r2, r3⟩ := rep_f cd (Nat.le_trans hd (by decide)) (Nat.le_trans hw (by decide))
  refine fun Qd Ed hQ hE => ?_
  cases w with
  | true =>
    simp only [if_true, mMethM, mCons, mVar, mNil, h5, h10]
    refine ⟨⟨rfl, rfl⟩, rfl, ws, sh, d, rfl, T, cl_ty hc, fun hm => ?_, fun x hx hm => ?_⟩
    · refine hE d _ r1 r2 r3 ?_
      have := hq h
      rw [if_neg (by rw [hm]; decide)] at this
      exact this
    · subst hx
      refine hQ _ _ ?_
      have := hq (h ++ [.x])
      rw [if_pos (by unfold memD; exact List.any_eq_true.mpr ⟨x, hm, by simp [isSt]⟩)] at this
      exact this
  | false =>
    simp only [Bool.false_eq_true, if_false, mMethM, mCons, mVar, mNil, h5, h10]
    refine ⟨⟨rfl, rfl⟩, rfl, ws, sh, d, rfl, T, cl_ty hc, fun hm => ?_, fun x hx hm => ?_⟩
    · refine hE d _ r1 r2 r3 ?_
      have := hq h
      rw [if_neg (by rw [hm]; decide)] at this
      exact this
    · subst hx
      refine hQ _ _ ?_
      have := hq (h ++ [.x])
      rw [if_pos (by unfold memD; exact List.any_eq_true.mpr ⟨x, hm, by simp [isSt]⟩)] at this
      exact this
end K11
namespace K11
open PySem L2 VL KL KM KP KT SS
theorem set_by {i : Nat} {M : M D} {rest : MS} {s : VS} {K : VE} (h : M s (fun d s' => rest ⟨s'.e.set i (.dat d), s'.n⟩ K) K.ex) : mSeq (mSet i M) rest s K := h
theorem allS_strs : ∀ xs : List Str, allS (xs.map .str) = some xs
  | [] => rfl
  | x :: r => by
    rw [List.map_cons]
    simp only [allS, allS_strs r]
    rfl
theorem keys_fnd (f : Fnd) : ((fndK f).map fun q => keyD q.1) = (f.map (·.1)).map .str := by
  unfold fndK
  rw [List.map_map, List.map_map]
  rfl
abbrev lb5 : MS := (mSeq (mSet 13 (mLst (mCons (mLam F_law_caught (mMethM "Train" "way" 2 F_Train_way (mVar 5) (mCons (mVar 10) mNil))) (mCons (mLam F_law_caught (mMethM "Train" "speed" 2 F_Train_speed (mVar 5) (mCons (mVar 10) mNil))) mNil)))) (mIfS (mAnd (mTst (mOp (inT true) (mVar 10) (mB lstKD (mCons (mVar 6) mNil)))) (mTst (mOp neP (mVar 13) (mOp mulD (mLst (mCons (mB reprQ (mCons (mVar 10) mNil)) mNil)) (mC (.int 2)))))) (mRet (mC (.bl false))) mNext))
theorem two_caught {ws : List Str} {sh : List Sft} {d : D} {e : List Slot} {n : Nat} {h : List Cell} {Q : D → VS → Prop} {E : Exn → VS → Prop} (T : okTr ws sh) (hc : clB (10 ^ 30) d = true) (hd : dp d ≤ 2) (hw : wt d ≤ 200) (h5 : (e.map shut)[5]? = some (.dat (trS ws sh))) (h10 : (e.map shut)[10]? = some (.dat d))
    (hq : ∀ m t, t = (if memD (namesF sh) d = true then D.non else .str (reprD d)) → Q (.lst [t, t]) ⟨e, ⟨n, m⟩⟩) :
    mLst (mCons (mLam F_law_caught (mMethM "Train" "way" 2 F_Train_way (mVar 5) (mCons (mVar 10) mNil))) (mCons (mLam F_law_caught (mMethM "Train" "speed" 2 F_Train_speed (mVar 5) (mCons (mVar 10) mNil))) mNil)) ⟨e, ⟨n, h⟩⟩ Q E := by
  unfold mLst
  show mLam F_law_caught _ ⟨e, ⟨n, h⟩⟩ _ _
  refine caught_ok (w := true) T hc hd hw h5 h10 fun m1 => ?_
  show mLam F_law_caught _ ⟨e, ⟨n, m1⟩⟩ _ _
  refine caught_ok (w := false) T hc hd hw h5 h10 fun m2 => ?_
  exact ⟨(by first | decide | (refine Nat.le_trans ?_ sizeLine_big; first | (simp only [List.length_append, List.length_cons, List.length_nil, List.length_map]; omega) | (simp; omega)) | (refine Nat.lt_of_lt_of_le ?_ sizeLine_big; first | (simp only [List.length_append, List.length_cons, List.length_nil, List.length_map]; omega) | (simp; omega))), hq m2 _ rfl⟩
theorem l5_ok {ws : List Str} {sh : List Sft} {d : D} {n : Nat} {K : VE} {s0 s1 s2 s4 s7 s8 s9 s11 s12 s13 : Slot} (T : okTr ws sh) (hc : clB (10 ^ 30) d = true) (hd : dp d ≤ 2) (hw : wt d ≤ 200) (hk : knD d = true) (h : List Cell)
    (hK : ∀ (t13 : Slot) (m : List Cell), K.nx ⟨[s0, s1, s2, .dat (TS ws), s4, .dat (trS ws sh), .dat (.fdc (fndK (turnF ws sh []))), s7, s8, s9, .dat d, s11, s12, t13], ⟨n, m⟩⟩) :
    lb5 ⟨[s0, s1, s2, .dat (TS ws), s4, .dat (trS ws sh), .dat (.fdc (fndK (turnF ws sh []))), s7, s8, s9, .dat d, s11, s12, s13], ⟨n, h⟩⟩ K := by
  have hnm : (turnF ws sh []).map (·.1) = namesF sh := by rw [turn_names]; rfl
  refine set_by ?_
  refine two_caught (e := [s0, s1, s2, .dat (TS ws), s4, .dat (trS ws sh), .dat (.fdc (fndK (turnF ws sh []))), s7, s8, s9, .dat d, s11, s12, s13]) T hc hd hw rfl rfl fun m t ht => ?_
  refine ⟨namesF sh, (by show allS ((fndK (turnF ws sh [])).map fun q => keyD q.1) = _; rw [keys_fnd, hnm]; exact allS_strs _), hk, _, rfl, ?_⟩
  show (if (xor true (memD (namesF sh) d)) = true then _ else _)
  cases hm : memD (namesF sh) d with
  | true => exact ite_no (by decide) (hK _ _)
  | false =>
    rw [if_neg (by rw [hm]; decide)] at ht
    subst ht
    have cd : cl d = true := clB_mono (by decide) d hc
    obtain ⟨r1, r2, r3⟩ := rep_f cd (Nat.le_trans hd (by decide)) (Nat.le_trans hw (by decide))
    refine ite_yes (by decide) ?_
    refine ⟨r1, r2, r3, (by first | decide | (refine Nat.le_trans ?_ sizeLine_big; first | (simp only [List.length_append, List.length_cons, List.length_nil, List.length_map]; omega) | (simp; omega)) | (refine Nat.lt_of_lt_of_le ?_ sizeLine_big; first | (simp only [List.length_append, List.length_cons, List.length_nil, List.length_map]; omega) | (simp; omega))), ⟨by decide, by decide, (by decide : 1 ≤ 1000)⟩, ?_⟩
    have dl : deepOk (.lst [.str (reprD d), .str (reprD d)]) = true := by
      have := (repr_ok d cd).1
      refine deep_of (n := 5) ⟨?_, ?_⟩ (by decide)
      · simp [good, goods, this]
      · simp [py, pys, PyData.depth, PyData.depthAll]
    show neP (.lst [.str (reprD d), .str (reprD d)]) (.lst [.str (reprD d), .str (reprD d)]) _
    refine ⟨⟨dl, dl⟩, _, rfl, ?_⟩
    refine ite_no (by rw [eqv_self (good_of dl)]; decide) ?_
    exact hK _ _
end K11
namespace K11
open PySem L2 VL KL KM KP KT SS
theorem v_law (ds : List D) (st : Ms) (Q : D → Ms → Prop) (E : Exn → Ms → Prop) (h : F_law ds st Q E) : m_law ⟨startE nm_law.length ds, st⟩ (endsOf Q E) := by
  obtain ⟨ns, rfl, rfl, hl, hbits, hq⟩ := h
  have hLIM : LIM = 2 ^ 60 := rfl
  show m_law ⟨[.dat (.scr ns), .un, .un, .un, .un, .un, .un, .un, .un, .un, .un, .un, .un, .un], m0⟩ (endsOf Q E)
  refine ⟨rfl, ns, rfl, rfl, hl, hbits, ?_⟩
  refine ⟨by show (5 : Int) + (if (12 : Int) < ((ns.length : Nat) : Int) then (12 : Int) else ((ns.length : Nat) : Int)) < 2 ^ 62; split <;> omega, by show -2 ^ 62 ≤ (5 : Int) + (if (12 : Int) < ((ns.length : Nat) : Int) then (12 : Int) else ((ns.length : Nat) : Int)); split <;> omega, ?_⟩
  have htop : ((5 : Int) + (if (12 : Int) < ((ns.length : Nat) : Int) then (12 : Int) else ((ns.length : Nat) : Int))).toNat ≤ 17 := by split <;> omega
  show forR _ _ (rng 0 ((5 : Int) + (if (12 : Int) < ((ns.length : Nat) : Int) then (12 : Int) else ((ns.length : Nat) : Int))).toNat) ⟨[.dat (.scr ns), .dat .drw, .un, .un, .un, .un, .un, .un, .un, .un, .un, .un, .un, .un], ⟨1, []⟩⟩ _
  refine forR_inv (fun items s => ∃ (n2 : Nat) (m2 : List Cell) (a2 a3 a4 a5 a6 a7 a8 a9 a10 a11 a12 a13 : Slot), s = ⟨[.dat (.scr ns), .dat .drw, a2, a3, a4, a5, a6, a7, a8, a9, a10, a11, a12, a13], ⟨n2, m2⟩⟩ ∧ n2 + 700 * items.length ≤ 20001) ?_ ?_ _ _ ⟨1, [], _, _, _, _, _, _, _, _, _, _, _, _, rfl, by rw [rng_len]; omega⟩
  · rintro s ⟨n2, m2, a2, a3, a4, a5, a6, a7, a8, a9, a10, a11, a12, a13, rfl, hn2⟩
    exact hq _
  · rintro d dss s ⟨n2, m2, a2, a3, a4, a5, a6, a7, a8, a9, a10, a11, a12, a13, rfl, hn2⟩ N hN
    simp only [List.length_cons] at hn2
    refine ⟨rfl, 5, rfl, by decide, by decide, by show n2 + 30 < LIM; omega, fun ws n3 hs h5' hn3 => ?_⟩
    have hn3' : n3 ≤ n2 + 30 := hn3
    obtain ⟨k1, k5, _, _⟩ := okS_of hs
    have hlw : (ws.map D.str).length = ws.length := List.length_map ..
    refine ⟨rfl, ws, 6, rfl, by decide, by decide, hs, by show n3 + 400 < LIM; omega, fun sh n4 S h6' hn4 => ?_⟩
    have hn4' : n4 ≤ n3 + 200 := hn4
    obtain ⟨sf, rfl, hT⟩ := bad_is S.bad
    have hsl : (sf.map sfD).length = sf.length := List.length_map ..
    have T : okTr ws sf := ⟨hs, by have := S.n1; omega, by have := S.n8; omega, hT⟩
    have h6 : sf.length ≤ 6 := by omega
    have hd := nodup_S hs
    refine ⟨rfl, train_ok (t := false) T rfl ⟨rfl, ws, sf, rfl, k1, k5, T.n8, hT, (by first | decide | (refine Nat.le_trans ?_ sizeLine_big; first | (simp only [List.length_append, List.length_cons, List.length_nil, List.length_map]; omega) | (simp; omega)) | (refine Nat.lt_of_lt_of_le ?_ sizeLine_big; first | (simp only [List.length_append, List.length_cons, List.length_nil, List.length_map]; omega) | (simp; omega))), rfl, rfl, ?_⟩⟩
    refine l1_ok T h6 _ _ _ fun t7 t11 m3 => ?_
    refine ⟨by decide, by decide, ?_⟩
    show forR _ _ (rng 0 (3 : Int).toNat) ⟨[.dat (.scr ns), .dat .drw, .dat d, .dat (TS ws), .dat (.lst (sf.map sfD)), .dat (trS ws sf), .dat (.fdc (fndK (turnF ws sf []))), t7, a8, a9, a10, t11, a12, a13], ⟨n4, m3⟩⟩ _
    refine forR_inv (fun items s => ∃ (n5 : Nat) (m5 : List Cell) (b7 b8 b11 b12 : Slot), s = ⟨[.dat (.scr ns), .dat .drw, .dat d, .dat (TS ws), .dat (.lst (sf.map sfD)), .dat (trS ws sf), .dat (.fdc (fndK (turnF ws sf []))), b7, b8, a9, a10, b11, b12, a13], ⟨n5, m5⟩⟩ ∧ n5 + 10 * items.length ≤ n4 + 30) ?_ ?_ _ _ ⟨n4, m3, _, _, _, _, rfl, by rw [rng_len]; exact Nat.le_refl _⟩
    · rintro s ⟨n5, m5, b7, b8, b11, b12, rfl, hn5⟩
      have hn5' : n5 ≤ n4 + 30 := by simpa using hn5
      have hm1 := T.n1
      refine ⟨⟨rfl, rfl⟩, ?_⟩
      refine ⟨rfl, ((sf.map sfD).length : Nat), rfl, by rw [hsl]; omega, by rw [hsl]; omega, by show n5 < LIM; omega, fun r n6 r0 r1 hn6 => ?_⟩
      have hn6' : n6 ≤ n5 + 1 := hn6
      rw [hsl] at r1
      obtain ⟨kk, hkk, kk1, kk2⟩ : ∃ kk : Nat, 1 + r = (kk : Int) ∧ 1 ≤ kk ∧ kk ≤ sf.length := ⟨(1 + r).toNat, by omega, by omega, by omega⟩
      refine ⟨rfl, ws, sf, .int kk, by rw [hkk], T, rfl, fun z hz z1 z2 => ?_, fun hm => ?_⟩
      · have : z = kk := by
          have := hz
          injection this with this
          omega
        subst this
        refine l4_ok T h6 kk1 _ fun m7 => ?_
        refine ⟨(by first | decide | (refine Nat.le_trans ?_ sizeLine_big; first | (simp only [List.length_append, List.length_cons, List.length_nil, List.length_map]; omega) | (simp; omega)) | (refine Nat.lt_of_lt_of_le ?_ sizeLine_big; first | (simp only [List.length_append, List.length_cons, List.length_nil, List.length_map]; omega) | (simp; omega))), rfl, rfl, by show n6 < LIM; omega, fun od n8 hod hn8 => ?_⟩
        have hn8' : n8 ≤ n6 + 1 := hn8
        refine ⟨(by first | decide | (refine Nat.le_trans ?_ sizeLine_big; first | (simp only [List.length_append, List.length_cons, List.length_nil, List.length_map]; omega) | (simp; omega)) | (refine Nat.lt_of_lt_of_le ?_ sizeLine_big; first | (simp only [List.length_append, List.length_cons, List.length_nil, List.length_map]; omega) | (simp; omega))), ?_⟩
        have hbad : ∀ x ∈ [D.non, .int 5, .str "zz", .tup [.str "bs"], .lst [], od], clB (10 ^ 30) x = true ∧ dp x ≤ 2 ∧ wt x ≤ 200 ∧ knD x = true := fun x hx => by
          have ho := odds_ok od hod
          simp only [List.mem_cons, List.not_mem_nil, or_false] at hx
          rcases hx with rfl | rfl | rfl | rfl | rfl | rfl
          · exact ⟨by decide +kernel, by decide +kernel, by decide +kernel, rfl⟩
          · exact ⟨by decide +kernel, by decide +kernel, by decide +kernel, rfl⟩
          · exact ⟨by decide +kernel, by decide +kernel, by decide +kernel, rfl⟩
          · exact ⟨by decide +kernel, by decide +kernel, by decide +kernel, rfl⟩
          · exact ⟨by decide +kernel, by decide +kernel, by decide +kernel, rfl⟩
          · exact ⟨ho.1, ho.2.1, ho.2.2, odd_kn _ hod⟩
        show forR (gN 10) lb5 [D.non, .int 5, .str "zz", .tup [.str "bs"], .lst [], od] _ _
        generalize [D.non, .int 5, .str "zz", .tup [.str "bs"], .lst [], od] = bads at hbad
        refine forR_inv (fun items s => (∀ x ∈ items, clB (10 ^ 30) x = true ∧ dp x ≤ 2 ∧ wt x ≤ 200 ∧ knD x = true) ∧ ∃ (m9 : List Cell) (c10 c13 : Slot), s = ⟨[.dat (.scr ns), .dat .drw, .dat d, .dat (TS ws), .dat (.lst (sf.map sfD)), .dat (trS ws sf), .dat (.fdc (fndK (turnF ws sf []))), b7, b8, .dat (trS ws (sf.take z)), c10, b11, b12, c13], ⟨n8, m9⟩⟩) ?_ ?_ _ _ ⟨hbad, m7, _, _, rfl⟩
        · rintro s ⟨_, m9, c10, c13, rfl⟩
          exact hN _ ⟨n8, m9, _, _, _, _, _, _, _, _, _, _, _, _, rfl, by omega⟩
        · rintro x xss s ⟨hb, m9, c10, c13, rfl⟩ N2 hN2
          obtain ⟨q1, q2, q3, q4⟩ := hb x (by simp)
          refine l5_ok T q1 q2 q3 q4 _ fun t13 m10 => ?_
          exact hN2 _ ⟨fun y hy => hb y (List.mem_cons_of_mem _ hy), m10, _, _, rfl⟩
      · exfalso
        simp only [among, Bool.and_eq_false_iff, decide_eq_false_iff_not] at hm
        omega
    · rintro d' dss' s ⟨n5, m5, b7, b8, b11, b12, rfl, hn5⟩ N' hN'
      simp only [List.length_cons] at hn5
      refine ⟨rfl, ws.length, by show [D.drw, D.int ((ws.map D.str).length : Nat)] = _; rw [hlw], by omega, by show n5 + 200 < LIM; omega, fun ps n6 hpl hp hn6 => ?_⟩
      have hn6' : n6 ≤ n5 + ws.length := hn6
      refine ⟨rfl, ws, sf, ps, rfl, k1, k5, hd, hpl, T.n8, hT, fun m6 => ?_⟩
      rw [show putF (lkI ws ps) sf [] = wF ps (turnF ws sf []) from put_w hd hpl.symm sf [] [] okF.nil hT (by simpa using T.n8)]
      refine l2_ok T h6 hpl hp _ _ fun t7' m7 => ?_
      exact hN' _ ⟨n6, m7, _, _, _, _, rfl, by omega⟩
end K11
namespace K11
open PySem L2 VL KL KM KP KT SS
section
variable {w : World} {K : PySem.W.Frag} {mg : Str → Option Value} {base : Heap}
theorem h_law_begun (T : Tx K mg base) : Has P w K mg base "_law_begun" 1 1 F_law_begun := by
  obtain ⟨fd, Fu⟩ := T.c.def_ 20 (d := dd_law_begun) rfl
  have nd := sc_law_begun.nd
  refine ⟨_, fd, ["_law_script"], T.m_law_begun, Fu.kp, rfl, (Fu.bindsN (ps := ["_law_script"]) fun _ _ _ _ _ _ us hl => match us, hl with | [_], _ => rfl), ?_⟩
  refine fnG_of (k := 0) Fu sc_law_begun (fun vs H Q E h => h.1) fun cdv A outer s H vs Q E hr hgd hsp => ⟨t_begun K, ?_, ?_⟩
  · exact pss_one (ps_ret (pe_disp (pps_cons pe_str (pe_callTy call_list_of rfl T.f_list (by decide +kernel) (pa_cons (pv 0) pa_nil rfl) (by decide) (by decide) rfl rfl)
      (pps_cons pe_str (pe_exF fun B => (pe_compIfF (own := [("_law_cell", 1)]) rfl nd (pmi_list (pm_var 0)) (blkOk_by (show blkC nm_law_begun (defScope st_law_begun) _ _ = true by decide +kernel)) (by simp) (fun _ _ _ _ _ _ => (pmg_name 1 nd)) (fun _ _ _ _ _ _ => (pt_ge (pm_var 1) (pm_pow pm_int pm_int))) (fun _ _ _ _ _ _ => (pm_var 1))))
      (pps_cons pe_str pe_int pps_nil))) rfl rfl (by simp) (by decide)))
  · obtain ⟨hl, g, m, ds, Qd, Ed, ht, ok, dv, ⟨ns, rfl, rfl, h1, h2, h3⟩, hq, he⟩ := hsp
    obtain ⟨v, rfl, dv1⟩ := dv.one
    refine begun_ok ht ok dv1 h1 h2 fun g' H' z x ok' ez => hq g' H' ⟨1, []⟩ _ _ x ok' ?_ h3
    simp only [DV]
    exact ⟨z, ez, rfl⟩
theorem h_law_next (T : Tx K mg base) : Has P w K mg base "_law_next" 1 2 F_law_next := by
  obtain ⟨fd, Fu⟩ := T.c.def_ 21 (d := dd_law_next) rfl
  have nd := sc_law_next.nd
  refine ⟨_, fd, ["_law_m", "_law_many"], T.m_law_next, Fu.kp, rfl, (Fu.bindsN (ps := ["_law_m", "_law_many"]) fun _ _ _ _ _ _ us hl => match us, hl with | [_, _], _ => rfl), ?_⟩
  refine fnG_of (k := 0) Fu sc_law_next (fun vs H Q E h => h.1) fun cdv A outer s H vs Q E hr hgd hsp => ⟨t_next K, ?_, ?_⟩
  · have hu : (cxOf (L2.CX P w) P w K mg base nm_law_next dd_law_next.qual dd_law_next.scope (He.fAd K dd_law_next.at_) cdv A outer s H E).A.units + 1 < cLine :=
      Nat.lt_of_le_of_lt (Nat.add_le_add_left (by decide) _) hr.units
    have hp : PassesOwn (model P w) (A.deeper (PyProof.Rows.envOfC dd_law_next.qual dd_law_next.scope s.heap.objs.size (He.fAd K dd_law_next.at_) cdv)) (PyProof.Rows.envOfC dd_law_next.qual dd_law_next.scope s.heap.objs.size (He.fAd K dd_law_next.at_) cdv) (cxOf (L2.CX P w) P w K mg base nm_law_next dd_law_next.qual dd_law_next.scope (He.fAd K dd_law_next.at_) cdv A outer s H E).xe :=
      passes_of (X := cxOf (L2.CX P w) P w K mg base nm_law_next dd_law_next.qual dd_law_next.scope (He.fAd K dd_law_next.at_) cdv A outer s H E) rfl
    exact pss_cons (ps_while hp (pt_ex fun B => (pt_w (pw_andV (pt_ne hr.units (pm_dget hu (pm_var 0) pm_str) (pm_lst pma_nil)) (pw_and1V (pt_eq hr.units (pm_ix (pm_dget hu (pm_var 0) pm_str) pm_int) pm_int)))))
        (pss_one (ps_dput hu (pv 0) pe_str (pe_slice sl_list (pe_dget hu (pv 0) pe_str (fun _ _ => rfl)) (po_some pe_int) po_none) rfl)))
      (pss_cons (ps_if (pt_ex fun B => (pt_ne hr.units (pm_dget hu (pm_var 0) pm_str) (pm_lst pma_nil)))
        (pss_cons (ps_set (i := 6) nd rfl (Or.inl rfl) (pe_ex fun B => (pm_ix (pm_dget hu (pm_var 0) pm_str) pm_int)))
        (pss_cons (ps_asg (pe_ex fun B => (pm_fdiv (pm_var 6) (pm_var 1))) (pg_sub (pe_dget hu (pv 0) pe_str (fun _ _ => rfl)) pe_int set_list))
        (pss_one (ps_ex fun B => (pms_ret (pm_mod (pm_intc T.f_int (pm_var 6)) (pm_var 1))))))) pss_nil)
      (pss_cons (ps_par (i := 2) (j := 3) rfl nd rfl rfl (by decide) rfl rfl (pa_cons (pe_ex fun B => (pm_add (pm_dget hu (pm_var 0) pm_str) pm_int)) (pa_cons (pe_ex fun B => (pm_dget hu (pm_var 0) pm_str)) pa_nil)) rfl rfl)
      (pss_cons (ps_dput hu (pv 0) pe_str (pv 2) rfl)
      (pss_ex fun B => (pms_cons (pms_set 4 nd (pm_if (pt_ne hr.units (pm_var 3) (pm_lst pma_nil)) (pm_intc T.f_int (pm_ix (pm_var 3) (pm_mod (pm_intc T.f_int (pm_add (pm_mul (pm_var 2) (pm_var 2)) (pm_fdiv (pm_var 2) pm_int))) (pm_len T.f_len (pm_var 3))))) pm_int))
        (pms_cons (pms_set 5 nd (pm_mod (pm_intc T.f_int (pm_add (pm_add (pm_mul (pm_var 4) pm_int) (pm_mul (pm_var 2) pm_int)) (pm_mul (pm_mul pm_int (pm_var 2)) (pm_var 2)))) pm_int))
        (pms_one (pms_ret (pm_mod (pm_intc T.f_int (pm_fdiv (pm_mod (pm_intc T.f_int (pm_add (pm_mul (pm_var 5) pm_int) (pm_mul pm_int (pm_var 2)))) pm_int) pm_int)) (pm_var 1))))))))))
  · obtain ⟨hl, g, m, ds, Qd, Ed, ht, ok, dv, ⟨k, rfl, h1, h2, h3, h4⟩, hq, he⟩ := hsp
    obtain ⟨v, u, rfl, dv1, dv2⟩ := dv.two
    simp only [DV] at dv1
    obtain ⟨z, ez, rfl⟩ := dv1
    rw [dv2.of_i]
    exact next_ok ht ok ez h1 h2 h3 fun g' H' n' r x ok' r0 r1 hn => hq g' H' ⟨n', m.h⟩ _ _ x ok' DV.i (h4 r n' r0 r1 hn)
end
end K11
namespace K11
open PySem L2 VL KL KM KP KT SS
section
variable {w : World} {K : PySem.W.Frag} {mg : Str → Option Value} {base : Heap}
theorem h_is_word (T : Tx K mg base) : Has P w K mg base "is_word" 1 1 F_is_word := by
  obtain ⟨fd, Fu⟩ := T.c.def_ 0 (d := dd_is_word) rfl
  have nd := sc_is_word.nd
  refine ⟨_, fd, ["thing"], T.m_is_word, Fu.kp, rfl, (Fu.bindsN (ps := ["thing"]) fun _ _ _ _ _ _ us hl => match us, hl with | [_], _ => rfl), ?_⟩
  refine fn_val (k := 0) (m := KL.m_is_word) Fu sc_is_word rfl (fun cdv A outer s H E B W hB0 hr hgd tk hp => ?_) KL.v_is_word
  exact (pms_one (pms_ret (pm_and (pm_isi kit_str T.f_isinstance T.f_str (by decide +kernel) (pm_var 0)) (pm_and (pm_lele pm_int (pm_len T.f_len (pm_var 0)) (pm_glob T.g_MOST_LETTERS (fun _ => DV.i))) (pm_one (pm_all rfl T.f_all (pm_comp (own := [("letter", 1)]) rfl nd (pmi_str (pm_var 0)) (blkOk_by (show blkC nm_is_word (defScope st_is_word) _ _ = true by decide +kernel)) (by simp) (fun _ _ _ _ _ _ => (pmg_name 1 nd)) (fun _ _ _ _ _ _ => (pm_in (pm_var 1) (pm_glob T.g_LETTERS (fun _ => DV.s)))))))))))
theorem h_is_number (T : Tx K mg base) : Has P w K mg base "is_number" 1 1 F_is_number := by
  obtain ⟨fd, Fu⟩ := T.c.def_ 1 (d := dd_is_number) rfl
  have nd := sc_is_number.nd
  refine ⟨_, fd, ["thing"], T.m_is_number, Fu.kp, rfl, (Fu.bindsN (ps := ["thing"]) fun _ _ _ _ _ _ us hl => match us, hl with | [_], _ => rfl), ?_⟩
  refine fn_val (k := 0) (m := KL.m_is_number) Fu sc_is_number rfl (fun cdv A outer s H E B W hB0 hr hgd tk hp => ?_) KL.v_is_number
  exact (pms_one (pms_ret (pm_and (pm_isi kit_int T.f_isinstance T.f_int (by decide +kernel) (pm_var 0)) (pm_one (pm_not (pm_isi kit_bool T.f_isinstance T.f_bool (by decide +kernel) (pm_var 0)))))))
theorem h_is_among (T : Tx K mg base) : Has P w K mg base "is_among" 2 3 F_is_among := by
  obtain ⟨fd, Fu⟩ := T.c.def_ 2 (d := dd_is_among) rfl
  have h_is_number := h_is_number (w := w) (base := base) T
  have nd := sc_is_among.nd
  refine ⟨_, fd, ["thing", "least", "most"], T.m_is_among, Fu.kp, rfl, (Fu.bindsN (ps := ["thing", "least", "most"]) fun _ _ _ _ _ _ us hl => match us, hl with | [_, _, _], _ => rfl), ?_⟩
  refine fn_val (k := 1) (m := KL.m_is_among) Fu sc_is_among rfl (fun cdv A outer s H E B W hB0 hr hgd tk hp => ?_) KL.v_is_among
  exact (pms_one (pms_ret (pm_and (pm_call h_is_number (hr.mono (by omega)) hgd tk (pma_cons (pm_var 0) pma_nil)) (pm_one (pm_lele (pm_var 1) (pm_var 0) (pm_var 2))))))
theorem h_need_sizes (T : Tx K mg base) : Has P w K mg base "need_sizes" 2 1 F_need_sizes := by
  obtain ⟨fd, Fu⟩ := T.c.def_ 3 (d := dd_need_sizes) rfl
  have h_is_word := h_is_word (w := w) (base := base) T
  have nd := sc_need_sizes.nd
  refine ⟨_, fd, ["thing"], T.m_need_sizes, Fu.kp, rfl, (Fu.bindsN (ps := ["thing"]) fun _ _ _ _ _ _ us hl => match us, hl with | [_], _ => rfl), ?_⟩
  refine fn_val (k := 1) (m := KL.m_need_sizes) Fu sc_need_sizes rfl (fun cdv A outer s H E B W hB0 hr hgd tk hp => ?_) KL.v_need_sizes
  exact (pms_cons (pms_if (pt_w (pw_orV (pt_notV (pt_tru (pm_isi kit_tuple T.f_isinstance T.f_tuple (by decide +kernel) (pm_var 0)))) (pw_orV (pt_notV (pt_lele pm_int (pm_len T.f_len (pm_var 0)) (pm_glob T.g_MOST_SIZES (fun _ => DV.i)))) (pw_or1V (pt_notV (pt_tru (pm_all rfl T.f_all (pm_comp (own := [("one", 1)]) rfl nd (pmi_tup (pm_var 0)) (blkOk_by (show blkC nm_need_sizes (defScope st_need_sizes) _ _ = true by decide +kernel)) (by simp) (fun _ _ _ _ _ _ => (pmg_name 1 nd)) (fun _ _ _ _ _ _ => (pm_call h_is_word (hr.mono (by omega)) hgd takes0 (pma_cons (pm_var 1) pma_nil))))))))))) (pms_one (pms_raise T.s_BadSizes.1 T.f_super T.m_BadSizes (hr.mono (by omega)) rfl tk (pm_var 0))) pms_nil)
  (pms_cons (pms_if (pt_notV (pt_tru (pm_all rfl T.f_all (pm_comp (own := [("one", 1), ("other", 2)]) rfl nd (pmi_zip2 T.f_zip (pm_var 0) (pm_sl (pm_var 0) (pmo_some pm_int) pmo_none)) (blkOk_by (show blkC nm_need_sizes (defScope st_need_sizes) _ _ = true by decide +kernel)) (by simp) (fun _ _ _ _ _ _ => (pmg_tup rfl (pmg_cons (pmg_name 1 nd) (pmg_cons (pmg_name 2 nd) pmg_nil)))) (fun _ _ _ _ _ _ => (pm_lt (pm_var 1) (pm_var 2))))))) (pms_one (pms_raise T.s_BadSizes.1 T.f_super T.m_BadSizes (hr.mono (by omega)) rfl tk (pm_var 0))) pms_nil)
  (pms_one (pms_ret (pm_var 0)))))
theorem h_added (T : Tx K mg base) : Has P w K mg base "added" 1 2 F_added := by
  obtain ⟨fd, Fu⟩ := T.c.def_ 4 (d := dd_added) rfl
  have nd := sc_added.nd
  refine ⟨_, fd, ["one", "other"], T.m_added, Fu.kp, rfl, (Fu.bindsN (ps := ["one", "other"]) fun _ _ _ _ _ _ us hl => match us, hl with | [_, _], _ => rfl), ?_⟩
  refine fn_val (k := 0) (m := KT.m_added) Fu sc_added rfl (fun cdv A outer s H E B W hB0 hr hgd tk hp => ?_) KT.v_added
  exact (pms_one (pms_ret (pm_tuple T.f_tuple (pm_comp (own := [("first", 2), ("second", 3)]) rfl nd (pmi_zip2 T.f_zip (pm_var 0) (pm_var 1)) (blkOk_by (show blkC nm_added (defScope st_added) _ _ = true by decide +kernel)) (by simp) (fun _ _ _ _ _ _ => (pmg_tup rfl (pmg_cons (pmg_name 2 nd) (pmg_cons (pmg_name 3 nd) pmg_nil)))) (fun _ _ _ _ _ _ => (pm_add (pm_var 2) (pm_var 3)))))))
theorem h_times_so (T : Tx K mg base) : ∀ j : Nat, Has P w K mg base "times_so" (2 + j) 2 (F_times_so j)
  | 0 => by
    obtain ⟨fd, Fu⟩ := T.c.def_ 5 (d := dd_times_so) rfl
    refine ⟨_, fd, ["speed", "product"], T.m_times_so, Fu.kp, rfl, (Fu.bindsN (ps := ["speed", "product"]) fun _ _ _ _ _ _ us hl => match us, hl with | [_, _], _ => rfl), ?_⟩
    exact fnG_of (k := 1) Fu sc_times_so (fun vs H Q E h => h.1) fun cdv A outer s H vs Q E hr hgd hsp => by
      obtain ⟨_, _, _, _, _, _, _, _, _, h, _⟩ := hsp
      exact h.elim
  | j + 1 => by
    obtain ⟨fd, Fu⟩ := T.c.def_ 5 (d := dd_times_so) rfl
    have h_times_so := h_times_so T j
    have h_added := h_added (w := w) (base := base) T
    have nd := sc_times_so.nd
    refine ⟨_, fd, ["speed", "product"], T.m_times_so, Fu.kp, rfl, (Fu.bindsN (ps := ["speed", "product"]) fun _ _ _ _ _ _ us hl => match us, hl with | [_, _], _ => rfl), ?_⟩
    refine fn_val (k := 2 + j) (m := KT.m_times_so (F_times_so j)) Fu sc_times_so rfl (fun cdv A outer s H E B W hB0 hr hgd tk hp => ?_) (KT.v_times_so j)
    exact (pms_cons (pms_if (pt_eqT hr.units (pm_ix (pm_var 0) pm_int) (pm_glob T.g_PRODUCT (fun _ => DV.s))) (pms_one (pms_ret (pm_tup (pma_cons (pm_glob T.g_PRODUCT (fun _ => DV.s)) (pma_cons (pm_call h_added (hr.mono (by omega)) hgd tk (pma_cons (pm_ix (pm_var 0) pm_int) (pma_cons (pm_var 1) pma_nil))) pma_nil))))) pms_nil)
  (pms_one (pms_ret (pm_tup (pma_cons (pm_ix (pm_var 0) pm_int) (pma_cons (pm_tuple T.f_tuple (pm_comp (own := [("one", 2)]) rfl nd (pmi_tup (pm_ix (pm_var 0) pm_int)) (blkOk_by (show blkC nm_times_so (defScope st_times_so) _ _ = true by decide +kernel)) (by simp) (fun _ _ _ _ _ _ => (pmg_name 2 nd)) (fun _ _ _ _ _ _ => (pm_call h_times_so (hr.mono (by omega)) hgd takes0 (pma_cons (pm_var 2) (pma_cons (pm_var 1) pma_nil)))))) pma_nil))))))
theorem h_is_kind (T : Tx K mg base) : Has P w K mg base "is_kind" 1 1 F_is_kind := by
  obtain ⟨fd, Fu⟩ := T.c.def_ 6 (d := dd_is_kind) rfl
  have nd := sc_is_kind.nd
  refine ⟨_, fd, ["thing"], T.m_is_kind, Fu.kp, rfl, (Fu.bindsN (ps := ["thing"]) fun _ _ _ _ _ _ us hl => match us, hl with | [_], _ => rfl), ?_⟩
  refine fn_val (k := 0) (m := KT.m_is_kind) Fu sc_is_kind rfl (fun cdv A outer s H E B W hB0 hr hgd tk hp => ?_) KT.v_is_kind
  exact (pms_one (pms_ret (pm_and (pm_isi kit_str T.f_isinstance T.f_str (by decide +kernel) (pm_var 0)) (pm_one (pm_in (pm_var 0) (pm_glob T.g_KINDS T.t_KINDS))))))
theorem h_is_size (T : Tx K mg base) : Has P w K mg base "is_size" 1 2 F_is_size := by
  obtain ⟨fd, Fu⟩ := T.c.def_ 7 (d := dd_is_size) rfl
  have nd := sc_is_size.nd
  refine ⟨_, fd, ["sizes", "thing"], T.m_is_size, Fu.kp, rfl, (Fu.bindsN (ps := ["sizes", "thing"]) fun _ _ _ _ _ _ us hl => match us, hl with | [_, _], _ => rfl), ?_⟩
  refine fn_val (k := 0) (m := KT.m_is_size) Fu sc_is_size rfl (fun cdv A outer s H E B W hB0 hr hgd tk hp => ?_) KT.v_is_size
  exact (pms_one (pms_ret (pm_and (pm_isi kit_str T.f_isinstance T.f_str (by decide +kernel) (pm_var 1)) (pm_one (pm_in (pm_var 1) (pm_var 0))))))
theorem h_is_link (T : Tx K mg base) : Has P w K mg base "is_link" 2 3 F_is_link := by
  obtain ⟨fd, Fu⟩ := T.c.def_ 8 (d := dd_is_link) rfl
  have h_is_kind := h_is_kind (w := w) (base := base) T
  have h_is_size := h_is_size (w := w) (base := base) T
  have nd := sc_is_link.nd
  refine ⟨_, fd, ["sizes", "names", "thing"], T.m_is_link, Fu.kp, rfl, (Fu.bindsN (ps := ["sizes", "names", "thing"]) fun _ _ _ _ _ _ us hl => match us, hl with | [_, _, _], _ => rfl), ?_⟩
  refine fn_val (k := 1) (m := KT.m_is_link) Fu sc_is_link rfl (fun cdv A outer s H E B W hB0 hr hgd tk hp => ?_) KT.v_is_link
  exact (pms_cons (pms_if (pt_w (pw_orV (pt_notV (pt_tru (pm_isi kit_tuple T.f_isinstance T.f_tuple (by decide +kernel) (pm_var 2)))) (pw_orV (pt_ne hr.units (pm_len T.f_len (pm_var 2)) pm_int) (pw_orV (pt_notV (pt_tru (pm_isi kit_str T.f_isinstance T.f_str (by decide +kernel) (pm_ix (pm_var 2) pm_int)))) (pw_or1V (pt_nin (pm_ix (pm_var 2) pm_int) (pm_var 1))))))) (pms_one (pms_ret pm_bl)) pms_nil)
  (pms_one (pms_ret (pm_and (pm_call h_is_size (hr.mono (by omega)) hgd tk (pma_cons (pm_var 0) (pma_cons (pm_ix (pm_var 2) pm_int) pma_nil))) (pm_and (pm_call h_is_size (hr.mono (by omega)) hgd tk (pma_cons (pm_var 0) (pma_cons (pm_ix (pm_var 2) pm_int) pma_nil))) (pm_one (pm_call h_is_kind (hr.mono (by omega)) hgd tk (pma_cons (pm_ix (pm_var 2) pm_int) pma_nil))))))))
theorem h_are_links (T : Tx K mg base) : Has P w K mg base "are_links" 3 4 F_are_links := by
  obtain ⟨fd, Fu⟩ := T.c.def_ 9 (d := dd_are_links) rfl
  have h_is_link := h_is_link (w := w) (base := base) T
  have nd := sc_are_links.nd
  refine ⟨_, fd, ["sizes", "names", "thing", "most"], T.m_are_links, Fu.kp, rfl, (Fu.bindsN (ps := ["sizes", "names", "thing", "most"]) fun _ _ _ _ _ _ us hl => match us, hl with | [_, _, _, _], _ => rfl), ?_⟩
  refine fn_val (k := 2) (m := KT.m_are_links) Fu sc_are_links rfl (fun cdv A outer s H E B W hB0 hr hgd tk hp => ?_) KT.v_are_links
  exact (pms_cons (pms_if (pt_w (pw_orV (pt_notV (pt_tru (pm_isi kit_tuple T.f_isinstance T.f_tuple (by decide +kernel) (pm_var 2)))) (pw_or1V (pt_notV (pt_lele pm_int (pm_len T.f_len (pm_var 2)) (pm_var 3)))))) (pms_one (pms_ret pm_bl)) pms_nil)
  (pms_one (pms_ret (pm_all rfl T.f_all (pm_comp (own := [("link", 4)]) rfl nd (pmi_tup (pm_var 2)) (blkOk_by (show blkC nm_are_links (defScope st_are_links) _ _ = true by decide +kernel)) (by simp) (fun _ _ _ _ _ _ => (pmg_name 4 nd)) (fun _ _ _ _ _ _ => (pm_call h_is_link (hr.mono (by omega)) hgd takes0 (pma_cons (pm_var 0) (pma_cons (pm_var 1) (pma_cons (pm_var 4) pma_nil))))))))))
theorem h_is_shaft (T : Tx K mg base) : Has P w K mg base "is_shaft" 4 3 F_is_shaft := by
  obtain ⟨fd, Fu⟩ := T.c.def_ 10 (d := dd_is_shaft) rfl
  have h_is_word := h_is_word (w := w) (base := base) T
  have h_is_number := h_is_number (w := w) (base := base) T
  have h_are_links := h_are_links (w := w) (base := base) T
  have nd := sc_is_shaft.nd
  refine ⟨_, fd, ["sizes", "names", "thing"], T.m_is_shaft, Fu.kp, rfl, (Fu.bindsN (ps := ["sizes", "names", "thing"]) fun _ _ _ _ _ _ us hl => match us, hl with | [_, _, _], _ => rfl), ?_⟩
  refine fn_val (k := 3) (m := KT.m_is_shaft) Fu sc_is_shaft rfl (fun cdv A outer s H E B W hB0 hr hgd tk hp => ?_) KT.v_is_shaft
  exact (pms_cons (pms_if (pt_w (pw_orV (pt_notV (pt_tru (pm_isi kit_tuple T.f_isinstance T.f_tuple (by decide +kernel) (pm_var 2)))) (pw_orV (pt_ne hr.units (pm_len T.f_len (pm_var 2)) pm_int) (pw_orV (pt_notV (pt_tru (pm_call h_is_word (hr.mono (by omega)) hgd tk (pma_cons (pm_ix (pm_var 2) pm_int) pma_nil)))) (pw_or1V (pt_in (pm_ix (pm_var 2) pm_int) (pm_var 1))))))) (pms_one (pms_ret pm_bl)) pms_nil)
  (pms_cons (pms_asg (pm_var 2) (pmg_tup rfl (pmg_cons (pmg_name 3 nd) (pmg_cons (pmg_name 4 nd) (pmg_cons (pmg_name 5 nd) (pmg_cons (pmg_name 6 nd) pmg_nil))))))
  (pms_cons (pms_if (pt_w (pw_orV (pt_notV (pt_tru (pm_isi kit_str T.f_isinstance T.f_str (by decide +kernel) (pm_var 4)))) (pw_or1V (pt_notV (pt_tru (pm_call h_is_number (hr.mono (by omega)) hgd tk (pma_cons (pm_var 5) pma_nil))))))) (pms_one (pms_ret pm_bl)) pms_nil)
  (pms_cons (pms_if (pt_eq0 hr.units (pm_var 1) (pm_tup pma_nil)) (pms_one (pms_ret (pm_and (pm_eq hr.units (pm_tup (pma_cons (pm_var 4) (pma_cons (pm_var 5) pma_nil))) (pm_tup (pma_cons (pm_glob T.g_HAND (fun _ => DV.s)) (pma_cons pm_int pma_nil)))) (pm_and (pm_isi kit_tuple T.f_isinstance T.f_tuple (by decide +kernel) (pm_var 6)) (pm_one (pm_eq0 hr.units (pm_var 6) (pm_tup pma_nil))))))) pms_nil)
  (pms_cons (pms_if (pt_eqT hr.units (pm_var 4) (pm_glob T.g_FIXED (fun _ => DV.s))) (pms_one (pms_ret (pm_and (pm_eq hr.units (pm_var 5) pm_int) (pm_one (pm_call h_are_links (hr.mono (by omega)) hgd tk (pma_cons (pm_var 0) (pma_cons (pm_var 1) (pma_cons (pm_var 6) (pma_cons pm_int pma_nil))))))))) pms_nil)
  (pms_one (pms_ret (pm_and (pm_inT hr.units (pm_var 4) (pm_tup (pma_cons (pm_glob T.g_FAST (fun _ => DV.s)) (pma_cons (pm_glob T.g_SLOW (fun _ => DV.s)) pma_nil)))) (pm_and (pm_in (pm_var 5) (pm_tup (pma_cons pm_int (pma_cons (pm_neg pm_int) pma_nil)))) (pm_one (pm_call h_are_links (hr.mono (by omega)) hgd tk (pma_cons (pm_var 0) (pma_cons (pm_var 1) (pma_cons (pm_var 6) (pma_cons (pm_glob T.g_MOST_LINKS (fun _ => DV.i)) pma_nil)))))))))))))))
theorem h_ratio (T : Tx K mg base) : Has P w K mg base "ratio" 1 3 F_ratio := by
  obtain ⟨fd, Fu⟩ := T.c.def_ 11 (d := dd_ratio) rfl
  have nd := sc_ratio.nd
  refine ⟨_, fd, ["sizes", "one", "other"], T.m_ratio, Fu.kp, rfl, (Fu.bindsN (ps := ["sizes", "one", "other"]) fun _ _ _ _ _ _ us hl => match us, hl with | [_, _, _], _ => rfl), ?_⟩
  refine fn_val (k := 0) (m := KT.m_ratio) Fu sc_ratio rfl (fun cdv A outer s H E B W hB0 hr hgd tk hp => ?_) KT.v_ratio
  exact (pms_one (pms_ret (pm_tuple T.f_tuple (pm_comp (own := [("size", 3)]) rfl nd (pmi_tup (pm_var 0)) (blkOk_by (show blkC nm_ratio (defScope st_ratio) _ _ = true by decide +kernel)) (by simp) (fun _ _ _ _ _ _ => (pmg_name 3 nd)) (fun _ _ _ _ _ _ => (pm_subB (pm_eq hr.units (pm_var 3) (pm_var 1)) (pm_eq hr.units (pm_var 3) (pm_var 2))))))))
theorem h_brought (T : Tx K mg base) : Has P w K mg base "brought" 12 3 F_brought := by
  obtain ⟨fd, Fu⟩ := T.c.def_ 12 (d := dd_brought) rfl
  have h_ratio := h_ratio (w := w) (base := base) T
  have h_times_so := h_times_so (w := w) (base := base) T 9
  have nd := sc_brought.nd
  refine ⟨_, fd, ["sizes", "found", "link"], T.m_brought, Fu.kp, rfl, (Fu.bindsN (ps := ["sizes", "found", "link"]) fun _ _ _ _ _ _ us hl => match us, hl with | [_, _, _], _ => rfl), ?_⟩
  refine fn_val (k := 11) (m := KT.m_brought) Fu sc_brought rfl (fun cdv A outer s H E B W hB0 hr hgd tk hp => ?_) KT.v_brought
  exact (pms_cons (pms_asg (pm_var 2) (pmg_tup rfl (pmg_cons (pmg_name 3 nd) (pmg_cons (pmg_name 4 nd) (pmg_cons (pmg_name 5 nd) (pmg_cons (pmg_name 6 nd) pmg_nil))))))
  (pms_cons (pms_if (pt_is (pm_dgetM (Nat.lt_of_le_of_lt (Nat.add_le_add_left (by decide) _) hr.units) (pm_var 1) (pm_var 3)) pm_non) (pms_one (pms_ret pm_non)) pms_nil)
  (pms_cons (pms_asg (pm_dgetM (Nat.lt_of_le_of_lt (Nat.add_le_add_left (by decide) _) hr.units) (pm_var 1) (pm_var 3)) (pmg_tup rfl (pmg_cons (pmg_name 7 nd) (pmg_cons (pmg_name 8 nd) pmg_nil))))
  (pms_one (pms_ret (pm_tup (pma_cons (pm_if (pt_eqT hr.units (pm_var 6) (pm_glob T.g_BAND (fun _ => DV.s))) (pm_var 7) (pm_neg (pm_var 7))) (pma_cons (pm_call h_times_so (hr.mono (by omega)) hgd tk (pma_cons (pm_var 8) (pma_cons (pm_call h_ratio (hr.mono (by omega)) hgd tk (pma_cons (pm_var 0) (pma_cons (pm_var 4) (pma_cons (pm_var 5) pma_nil)))) pma_nil))) pma_nil))))))))
theorem h_turning (T : Tx K mg base) : Has P w K mg base "turning" 13 2 F_turning := by
  obtain ⟨fd, Fu⟩ := T.c.def_ 13 (d := dd_turning) rfl
  have h_brought := h_brought (w := w) (base := base) T
  have nd := sc_turning.nd
  refine ⟨_, fd, ["sizes", "shafts"], T.m_turning, Fu.kp, rfl, (Fu.bindsN (ps := ["sizes", "shafts"]) fun _ _ _ _ _ _ us hl => match us, hl with | [_, _], _ => rfl), ?_⟩
  refine fn_val (k := 12) (m := KT.m_turning) Fu sc_turning rfl (fun cdv A outer s H E B W hB0 hr hgd tk hp => ?_) KT.v_turning
  exact (pms_cons (pms_set 2 nd pm_dctL)
  (pms_cons (pms_for hp rfl (pmi_tup (pm_var 1)) (pmg_tup rfl (pmg_cons (pmg_name 3 nd) (pmg_cons (pmg_name 4 nd) (pmg_cons (pmg_name 5 nd) (pmg_cons (pmg_name 6 nd) pmg_nil)))))
  (pms_cons (pms_setLcIf 7 (own := [("one", 9)]) rfl nd (pmi_list (pm_comp (own := [("link", 12)]) rfl nd (pmi_tup (pm_var 6)) (blkOk_by (show blkC nm_turning (defScope st_turning) _ _ = true by decide +kernel)) (by simp) (fun _ _ _ _ _ _ => (pmg_name 12 nd)) (fun _ _ _ _ _ _ => (pm_call h_brought (hr.mono (by omega)) hgd takes0 (pma_cons (pm_var 0) (pma_cons (pm_var 2) (pma_cons (pm_var 12) pma_nil))))))) (blkOk_by (show blkC nm_turning (defScope st_turning) _ _ = true by decide +kernel)) (by simp) (fun _ _ _ _ _ _ => (pmg_name 9 nd)) (fun _ _ _ _ _ _ => (pt_isnot (pm_var 9) pm_non)) (fun _ _ _ _ _ _ => (pm_var 9)) (sw_true rfl rfl rfl (by decide +kernel)))
  (pms_cons (pms_set 8 nd (pm_tuple T.f_tuple (pm_compIf (own := [("far", 10), ("speed", 11)]) rfl nd (pmi_list (pm_var 7)) (blkOk_by (show blkC nm_turning (defScope st_turning) _ _ = true by decide +kernel)) (by simp) (fun _ _ _ _ _ _ => (pmg_tup rfl (pmg_cons (pmg_name 10 nd) (pmg_cons (pmg_name 11 nd) pmg_nil)))) (fun _ _ _ _ _ _ => (pt_eq hr.units (pm_var 10) (pm_var 5))) (fun _ _ _ _ _ _ => (pm_var 11)))))
  (pms_one (pms_if (pt_eqT hr.units (pm_var 4) (pm_glob T.g_HAND (fun _ => DV.s))) (pms_one (pms_dput (Nat.lt_of_le_of_lt (Nat.add_le_add_left (by decide) _) hr.units) (pm_var 2) (pm_var 3) (pm_tup (pma_cons pm_int (pma_cons (pm_tup (pma_cons (pm_glob T.g_PRODUCT (fun _ => DV.s)) (pma_cons (pm_mul (pm_tup (pma_cons pm_int pma_nil)) (pm_len T.f_len (pm_var 0))) pma_nil))) pma_nil))))) (pms_one (pms_if (pt_eqT hr.units (pm_var 4) (pm_glob T.g_FIXED (fun _ => DV.s))) (pms_one (pms_dput (Nat.lt_of_le_of_lt (Nat.add_le_add_left (by decide) _) hr.units) (pm_var 2) (pm_var 3) (pm_if (pt_ne0 hr.units (pm_var 7) (pm_lst pma_nil)) (pm_ix (pm_var 7) pm_int) pm_non))) (pms_one (pms_if (pt_eq0 hr.units (pm_var 8) (pm_tup pma_nil)) (pms_one (pms_dput (Nat.lt_of_le_of_lt (Nat.add_le_add_left (by decide) _) hr.units) (pm_var 2) (pm_var 3) pm_non)) (pms_one (pms_dput (Nat.lt_of_le_of_lt (Nat.add_le_add_left (by decide) _) hr.units) (pm_var 2) (pm_var 3) (pm_tup (pma_cons (pm_var 5) (pma_cons (pm_tup (pma_cons (pm_if (pt_eqT hr.units (pm_var 4) (pm_glob T.g_FAST (fun _ => DV.s))) (pm_glob T.g_GREATEST (fun _ => DV.s)) (pm_glob T.g_LEAST (fun _ => DV.s))) (pma_cons (pm_var 8) pma_nil))) pma_nil))))))))))))))
  (pms_one (pms_ret (pm_fz (pm_var 2))))))
theorem h_Trainu_initu (T : Tx K mg base) : HasC P w K mg base "Train" 5 2 F_Trainu_initu := by
  obtain ⟨fd, Fu⟩ := T.c.def_ 14 (d := dd_Trainu_initu) rfl
  have h_need_sizes := h_need_sizes (w := w) (base := base) T
  have h_is_shaft := h_is_shaft (w := w) (base := base) T
  have nd := sc_Trainu_initu.nd
  refine ⟨T.m_Train, _, fd, ["self", "sizes", "shafts"], T.m_Trainu_initu, rfl, (Fu.bindsN (ps := ["self", "sizes", "shafts"]) fun _ _ _ _ _ _ us hl => match us, hl with | [_, _, _], _ => rfl), ?_⟩
  refine fn_init (k := 4) (C := "Train") (m := KT.m_Trainu_initu) Fu sc_Trainu_initu rfl (by decide) (fun cdv A outer s H E B W hB0 hr hgd tk hp => ?_) KT.v_Trainu_initu
  exact (pms_cons (pms_expr (pm_call h_need_sizes (hr.mono (by omega)) hgd tk (pma_cons (pm_var 1) pma_nil)))
  (pms_cons (pms_if (pt_w (pw_orV (pt_notV (pt_tru (pm_isi2 kit_list kit_tuple T.f_isinstance T.f_list (by decide +kernel) T.f_tuple (by decide +kernel) (pm_var 2)))) (pw_or1V (pt_notV (pt_lele pm_int (pm_len T.f_len (pm_var 2)) (pm_glob T.g_MOST_SHAFTS (fun _ => DV.i))))))) (pms_one (pms_raise T.s_BadTrain.1 T.f_super T.m_BadTrain (hr.mono (by omega)) rfl tk pm_non)) pms_nil)
  (pms_cons (pms_set 3 nd (pm_tup pma_nil))
  (pms_cons (pms_for hp rfl (pmi_enum2 T.f_enumerate (pm_var 2)) (pmg_tup rfl (pmg_cons (pmg_name 4 nd) (pmg_cons (pmg_name 5 nd) pmg_nil)))
  (pms_cons (pms_if (pt_notV (pt_tru (pm_call h_is_shaft (hr.mono (by omega)) hgd tk (pma_cons (pm_var 1) (pma_cons (pm_var 3) (pma_cons (pm_var 5) pma_nil)))))) (pms_one (pms_raise T.s_BadTrain.1 T.f_super T.m_BadTrain (hr.mono (by omega)) rfl tk (pm_var 4))) pms_nil)
  (pms_one (pms_set 3 nd (pm_tup (pma_star (pm_var 3) (pma_cons (pm_ix (pm_var 5) pm_int) pma_nil)))))))
  (pms_cons (pms_fld 0 T.c_Train (pm_var 1))
  (pms_one (pms_fld 0 T.c_Train (pm_tuple T.f_tuple (pm_var 2)))))))))
theorem h_Train_names (T : Tx K mg base) : HasM P w K mg base "Train" "names" 1 1 F_Train_names := by
  obtain ⟨fd, Fu⟩ := T.c.def_ 15 (d := dd_Train_names) rfl
  have nd := sc_Train_names.nd
  refine ⟨_, fd, ["self"], T.m_Train_names, rfl, (Fu.bindsN (ps := ["self"]) fun _ _ _ _ _ _ us hl => match us, hl with | [_], _ => rfl), ?_⟩
  refine fn_val (k := 0) (m := KT.m_Train_names) Fu sc_Train_names rfl (fun cdv A outer s H E B W hB0 hr hgd tk hp => ?_) KT.v_Train_names
  exact (pms_one (pms_ret (pm_tuple T.f_tuple (pm_comp (own := [("shaft", 1)]) rfl nd (pmi_tup (pm_fld T.c_Train (pm_var 0))) (blkOk_by (show blkC nm_Train_names (defScope st_Train_names) _ _ = true by decide +kernel)) (by simp) (fun _ _ _ _ _ _ => (pmg_name 1 nd)) (fun _ _ _ _ _ _ => (pm_ix (pm_var 1) pm_int))))))
theorem h_Train_does (T : Tx K mg base) : HasM P w K mg base "Train" "does" 14 2 F_Train_does := by
  obtain ⟨fd, Fu⟩ := T.c.def_ 16 (d := dd_Train_does) rfl
  have h_Train_names := h_Train_names (w := w) (base := base) T
  have h_turning := h_turning (w := w) (base := base) T
  have nd := sc_Train_does.nd
  refine ⟨_, fd, ["self", "name"], T.m_Train_does, rfl, (Fu.bindsN (ps := ["self", "name"]) fun _ _ _ _ _ _ us hl => match us, hl with | [_, _], _ => rfl), ?_⟩
  refine fn_val (k := 13) (m := KT.m_Train_does) Fu sc_Train_does rfl (fun cdv A outer s H E B W hB0 hr hgd tk hp => ?_) KT.v_Train_does
  exact (pms_cons (pms_if (pt_w (pw_orV (pt_notV (pt_tru (pm_isi kit_str T.f_isinstance T.f_str (by decide +kernel) (pm_var 1)))) (pw_or1V (pt_nin (pm_var 1) (pm_methM0 T.c_Train h_Train_names (hr.mono (by omega)) hgd tk (pm_var 0)))))) (pms_one (pms_raise T.s_BadNumber.1 T.f_super T.m_BadNumber (hr.mono (by omega)) rfl tk (pm_var 1))) pms_nil)
  (pms_one (pms_ret (pm_dgetM (Nat.lt_of_le_of_lt (Nat.add_le_add_left (by decide) _) hr.units) (pm_call h_turning (hr.mono (by omega)) hgd tk (pma_cons (pm_fld T.c_Train (pm_var 0)) (pma_cons (pm_fld T.c_Train (pm_var 0)) pma_nil))) (pm_var 1)))))
theorem h_Train_way (T : Tx K mg base) : HasM P w K mg base "Train" "way" 15 2 F_Train_way := by
  obtain ⟨fd, Fu⟩ := T.c.def_ 17 (d := dd_Train_way) rfl
  have h_Train_does := h_Train_does (w := w) (base := base) T
  have nd := sc_Train_way.nd
  refine ⟨_, fd, ["self", "name"], T.m_Train_way, rfl, (Fu.bindsN (ps := ["self", "name"]) fun _ _ _ _ _ _ us hl => match us, hl with | [_, _], _ => rfl), ?_⟩
  refine fn_val (k := 14) (m := KT.m_Train_way) Fu sc_Train_way rfl (fun cdv A outer s H E B W hB0 hr hgd tk hp => ?_) KT.v_Train_way
  exact (pms_cons (pms_set 2 nd (pm_methM T.c_Train h_Train_does (hr.mono (by omega)) hgd tk (pm_var 0) (pma_cons (pm_var 1) pma_nil)))
  (pms_one (pms_ret (pm_if (pt_isnot (pm_var 2) pm_non) (pm_ix (pm_var 2) pm_int) pm_int))))
theorem h_Train_speed (T : Tx K mg base) : HasM P w K mg base "Train" "speed" 15 2 F_Train_speed := by
  obtain ⟨fd, Fu⟩ := T.c.def_ 18 (d := dd_Train_speed) rfl
  have h_Train_does := h_Train_does (w := w) (base := base) T
  have nd := sc_Train_speed.nd
  refine ⟨_, fd, ["self", "name"], T.m_Train_speed, rfl, (Fu.bindsN (ps := ["self", "name"]) fun _ _ _ _ _ _ us hl => match us, hl with | [_, _], _ => rfl), ?_⟩
  refine fn_val (k := 14) (m := KT.m_Train_speed) Fu sc_Train_speed rfl (fun cdv A outer s H E B W hB0 hr hgd tk hp => ?_) KT.v_Train_speed
  exact (pms_cons (pms_set 2 nd (pm_methM T.c_Train h_Train_does (hr.mono (by omega)) hgd tk (pm_var 0) (pma_cons (pm_var 1) pma_nil)))
  (pms_one (pms_ret (pm_if (pt_isnot (pm_var 2) pm_non) (pm_ix (pm_var 2) pm_int) pm_non))))
theorem h_Train_only (T : Tx K mg base) : HasM P w K mg base "Train" "only" 7 2 F_Train_only := by
  obtain ⟨fd, Fu⟩ := T.c.def_ 19 (d := dd_Train_only) rfl
  have h_is_among := h_is_among (w := w) (base := base) T
  have h_Trainu_initu := h_Trainu_initu (w := w) (base := base) T
  have nd := sc_Train_only.nd
  refine ⟨_, fd, ["self", "many"], T.m_Train_only, rfl, (Fu.bindsN (ps := ["self", "many"]) fun _ _ _ _ _ _ us hl => match us, hl with | [_, _], _ => rfl), ?_⟩
  refine fn_val (k := 6) (m := KT.m_Train_only) Fu sc_Train_only rfl (fun cdv A outer s H E B W hB0 hr hgd tk hp => ?_) KT.v_Train_only
  exact (pms_cons (pms_if (pt_notV (pt_tru (pm_call h_is_among (hr.mono (by omega)) hgd tk (pma_cons (pm_var 1) (pma_cons pm_int (pma_cons (pm_len T.f_len (pm_fld T.c_Train (pm_var 0))) pma_nil)))))) (pms_one (pms_raise T.s_BadNumber.1 T.f_super T.m_BadNumber (hr.mono (by omega)) rfl tk (pm_var 1))) pms_nil)
  (pms_one (pms_ret (pm_make h_Trainu_initu (hr.mono (by omega)) hgd tk (pma_cons (pm_fld T.c_Train (pm_var 0)) (pma_cons (pm_sl (pm_fld T.c_Train (pm_var 0)) pmo_none (pmo_some (pm_var 1))) pma_nil))))))
theorem h_law_names (T : Tx K mg base) : Has P w K mg base "_law_names" 2 2 F_law_names := by
  obtain ⟨fd, Fu⟩ := T.c.def_ 22 (d := dd_law_names) rfl
  have h_law_next := h_law_next (w := w) (base := base) T
  have nd := sc_law_names.nd
  refine ⟨_, fd, ["_law_m", "_law_many"], T.m_law_names, Fu.kp, rfl, (Fu.bindsN (ps := ["_law_m", "_law_many"]) fun _ _ _ _ _ _ us hl => match us, hl with | [_, _], _ => rfl), ?_⟩
  refine fn_val (k := 1) (m := KL.m_law_names) Fu sc_law_names rfl (fun cdv A outer s H E B W hB0 hr hgd tk hp => ?_) KL.v_law_names
  exact (pms_cons (pms_asg (pm_tup (pma_cons pm_str (pma_cons pm_str pma_nil))) (pmg_tup rfl (pmg_cons (pmg_name 2 nd) (pmg_cons (pmg_name 3 nd) pmg_nil))))
  (pms_cons (pms_for hp rfl (pmi_rng1 T.f_range (pm_call h_law_next (hr.mono (by omega)) hgd tk (pma_cons (pm_var 0) (pma_cons pm_int pma_nil)))) (pmg_name 4 nd)
  (pms_one (pms_set 3 nd (pm_add (pm_var 3) (pm_ix (pm_var 2) (pm_call h_law_next (hr.mono (by omega)) hgd tk (pma_cons (pm_var 0) (pma_cons pm_int pma_nil))))))))
  (pms_cons (pms_asg (pm_tup (pma_cons (pm_call h_law_next (hr.mono (by omega)) hgd tk (pma_cons (pm_var 0) (pma_cons (pm_add (pm_len T.f_len (pm_var 3)) pm_int) pma_nil))) (pma_cons (pm_call h_law_next (hr.mono (by omega)) hgd tk (pma_cons (pm_var 0) (pma_cons pm_int pma_nil))) (pma_cons (pm_ix (pm_lst (pma_cons pm_int (pma_cons pm_int (pma_cons pm_int (pma_cons pm_int (pma_cons pm_int (pma_cons pm_int pma_nil))))))) (pm_call h_law_next (hr.mono (by omega)) hgd tk (pma_cons (pm_var 0) (pma_cons pm_int pma_nil)))) pma_nil)))) (pmg_tup rfl (pmg_cons (pmg_name 5 nd) (pmg_cons (pmg_name 6 nd) (pmg_cons (pmg_name 7 nd) pmg_nil)))))
  (pms_cons (pms_set 8 nd (pm_sl (pm_add (pm_var 3) (pm_mul (pm_ix (pm_var 2) (pm_var 6)) pm_int)) pmo_none (pmo_some pm_int)))
  (pms_cons (pms_if (pt_w (pw_andV (pt_gt (pm_var 7) pm_int) (pw_and1V (pt_lt (pm_var 1) pm_int)))) (pms_one (pms_ret (pm_comp (own := [("_law_k", 4)]) rfl nd (pmi_rng1 T.f_range (pm_var 1)) (blkOk_by (show blkC nm_law_names (defScope st_law_names) _ _ = true by decide +kernel)) (by simp) (fun _ _ _ _ _ _ => (pmg_name 4 nd)) (fun _ _ _ _ _ _ => (pm_if (pt_gt (pm_var 7) pm_int) (pm_sl (pm_var 8) (pmo_some (pm_var 4)) pmo_none) (pm_sl (pm_var 8) pmo_none (pmo_some (pm_sub (pm_add (pm_var 4) pm_int) (pm_var 1))))))))) pms_nil)
  (pms_one (pms_ret (pm_comp (own := [("_law_k", 4)]) rfl nd (pmi_rng1 T.f_range (pm_var 1)) (blkOk_by (show blkC nm_law_names (defScope st_law_names) _ _ = true by decide +kernel)) (by simp) (fun _ _ _ _ _ _ => (pmg_name 4 nd)) (fun _ _ _ _ _ _ => (pm_add (pm_add (pm_sl (pm_var 3) pmo_none (pmo_some (pm_var 5))) (pm_ix (pm_var 2) (pm_mod (pm_intc T.f_int (pm_add (pm_var 6) (pm_mul (pm_var 7) (pm_var 4)))) pm_int))) (pm_sl (pm_var 3) (pmo_some (pm_var 5)) pmo_none)))))))))))
theorem h_law_odd (T : Tx K mg base) : Has P w K mg base "_law_odd" 2 1 F_law_odd := by
  obtain ⟨fd, Fu⟩ := T.c.def_ 23 (d := dd_law_odd) rfl
  have h_law_next := h_law_next (w := w) (base := base) T
  have nd := sc_law_odd.nd
  refine ⟨_, fd, ["_law_m"], T.m_law_odd, Fu.kp, rfl, (Fu.bindsN (ps := ["_law_m"]) fun _ _ _ _ _ _ us hl => match us, hl with | [_], _ => rfl), ?_⟩
  refine fn_val (k := 1) (m := KP.m_law_odd) Fu sc_law_odd rfl (fun cdv A outer s H E B W hB0 hr hgd tk hp => ?_) KP.v_law_odd
  exact (pms_cons (pms_set 1 nd (pm_lst (pma_cons pm_non (pma_cons pm_int (pma_cons pm_int (pma_cons pm_int (pma_cons pm_int (pma_cons (pm_neg pm_int) (pma_cons pm_int (pma_cons (pm_neg pm_int) (pma_cons pm_bl (pma_cons pm_bl (pma_cons pm_str (pma_cons pm_str (pma_cons pm_str (pma_cons pm_str (pma_cons pm_str (pma_cons pm_str (pma_cons (pm_tup pma_nil) (pma_cons (pm_tup (pma_cons (pm_tup pma_nil) pma_nil)) pma_nil))))))))))))))))))))
  (pms_cons (pms_set 1 nd (pm_add (pm_var 1) (pm_lst (pma_cons (pm_tup (pma_cons pm_str (pma_cons pm_int pma_nil))) (pma_cons (pm_lst pma_nil) (pma_cons pm_dict0 (pma_cons (pm_pow pm_int pm_int) (pma_cons (pm_tup (pma_cons pm_str pma_nil)) (pma_cons (pm_tup (pma_cons pm_str (pma_cons (pm_tup pma_nil) pma_nil))) (pma_cons pm_str (pma_cons (pm_tup (pma_cons pm_non pma_nil)) (pma_cons (pm_tup (pma_cons pm_int pma_nil)) (pma_cons (pm_tup (pma_cons pm_int (pma_cons pm_int pma_nil))) (pma_cons (pm_tup (pma_cons pm_str (pma_cons pm_str pma_nil))) pma_nil))))))))))))))
  (pms_one (pms_ret (pm_ix (pm_var 1) (pm_call h_law_next (hr.mono (by omega)) hgd tk (pma_cons (pm_var 0) (pma_cons pm_int pma_nil))))))))
theorem h_law_sizes (T : Tx K mg base) : Has P w K mg base "_law_sizes" 3 2 F_law_sizes := by
  obtain ⟨fd, Fu⟩ := T.c.def_ 24 (d := dd_law_sizes) rfl
  have h_law_next := h_law_next (w := w) (base := base) T
  have h_law_names := h_law_names (w := w) (base := base) T
  have nd := sc_law_sizes.nd
  refine ⟨_, fd, ["_law_m", "_law_most"], T.m_law_sizes, Fu.kp, rfl, (Fu.bindsN (ps := ["_law_m", "_law_most"]) fun _ _ _ _ _ _ us hl => match us, hl with | [_, _], _ => rfl), ?_⟩
  refine fn_val (k := 2) (m := KL.m_law_sizes) Fu sc_law_sizes rfl (fun cdv A outer s H E B W hB0 hr hgd tk hp => ?_) KL.v_law_sizes
  exact (pms_one (pms_ret (pm_tuple T.f_tuple (pm_sorted T.f_sorted (pm_call h_law_names (hr.mono (by omega)) hgd tk (pma_cons (pm_var 0) (pma_cons (pm_add pm_int (pm_call h_law_next (hr.mono (by omega)) hgd tk (pma_cons (pm_var 0) (pma_cons (pm_var 1) pma_nil)))) pma_nil)))))))
theorem h_law_sum (T : Tx K mg base) : Has P w K mg base "_law_sum" 1 2 F_law_sum := by
  obtain ⟨fd, Fu⟩ := T.c.def_ 25 (d := dd_law_sum) rfl
  have nd := sc_law_sum.nd
  refine ⟨_, fd, ["_law_product_here", "_law_numbers_here"], T.m_law_sum, Fu.kp, rfl, (Fu.bindsN (ps := ["_law_product_here", "_law_numbers_here"]) fun _ _ _ _ _ _ us hl => match us, hl with | [_, _], _ => rfl), ?_⟩
  refine fn_val (k := 0) (m := KL.m_law_sum) Fu sc_law_sum rfl (fun cdv A outer s H E B W hB0 hr hgd tk hp => ?_) KL.v_law_sum
  exact (pms_one (pms_ret (pm_sumA rfl T.f_sum (pm_comp (own := [("_law_power", 2), ("_law_number", 3)]) rfl nd (pmi_zip2 T.f_zip (pm_var 0) (pm_var 1)) (blkOk_by (show blkC nm_law_sum (defScope st_law_sum) _ _ = true by decide +kernel)) (by simp) (fun _ _ _ _ _ _ => (pmg_tup rfl (pmg_cons (pmg_name 2 nd) (pmg_cons (pmg_name 3 nd) pmg_nil)))) (fun _ _ _ _ _ _ => (pm_mul (pm_var 2) (pm_var 3)))))))
theorem h_law_weight (T : Tx K mg base) : ∀ j : Nat, Has P w K mg base "_law_weight" (2 + j) 2 (F_law_weight j)
  | 0 => by
    obtain ⟨fd, Fu⟩ := T.c.def_ 26 (d := dd_law_weight) rfl
    refine ⟨_, fd, ["_law_speed_here", "_law_numbers_here"], T.m_law_weight, Fu.kp, rfl, (Fu.bindsN (ps := ["_law_speed_here", "_law_numbers_here"]) fun _ _ _ _ _ _ us hl => match us, hl with | [_, _], _ => rfl), ?_⟩
    exact fnG_of (k := 1) Fu sc_law_weight (fun vs H Q E h => h.1) fun cdv A outer s H vs Q E hr hgd hsp => by
      obtain ⟨_, _, _, _, _, _, _, _, _, h, _⟩ := hsp
      exact h.elim
  | j + 1 => by
    obtain ⟨fd, Fu⟩ := T.c.def_ 26 (d := dd_law_weight) rfl
    have h_law_weight := h_law_weight T j
    have h_law_sum := h_law_sum (w := w) (base := base) T
    have nd := sc_law_weight.nd
    refine ⟨_, fd, ["_law_speed_here", "_law_numbers_here"], T.m_law_weight, Fu.kp, rfl, (Fu.bindsN (ps := ["_law_speed_here", "_law_numbers_here"]) fun _ _ _ _ _ _ us hl => match us, hl with | [_, _], _ => rfl), ?_⟩
    refine fn_val (k := 2 + j) (m := KP.m_law_weight (F_law_weight j)) Fu sc_law_weight rfl (fun cdv A outer s H E B W hB0 hr hgd tk hp => ?_) (KP.v_law_weight j)
    exact (pms_cons (pms_if (pt_eqT hr.units (pm_ix (pm_var 0) pm_int) pm_str) (pms_one (pms_ret (pm_call h_law_sum (hr.mono (by omega)) hgd tk (pma_cons (pm_ix (pm_var 0) pm_int) (pma_cons (pm_var 1) pma_nil))))) pms_nil)
  (pms_cons (pms_setLc 2 (own := [("_law_one", 3)]) rfl nd (pmi_tup (pm_ix (pm_var 0) pm_int)) (blkOk_by (show blkC nm_law_weight (defScope st_law_weight) _ _ = true by decide +kernel)) (by simp) (fun _ _ _ _ _ _ => (pmg_name 3 nd)) (fun _ _ _ _ _ _ => (pm_call h_law_weight (hr.mono (by omega)) hgd takes0 (pma_cons (pm_var 3) (pma_cons (pm_var 1) pma_nil)))) (sw_true rfl rfl rfl (by decide +kernel)))
  (pms_one (pms_ret (pm_if (pt_eqT hr.units (pm_ix (pm_var 0) pm_int) pm_str) (pm_max rfl T.f_max (pm_var 2)) (pm_min rfl T.f_min (pm_var 2)))))))
theorem h_law_numbers (T : Tx K mg base) : Has P w K mg base "_law_numbers" 2 2 F_law_numbers := by
  obtain ⟨fd, Fu⟩ := T.c.def_ 27 (d := dd_law_numbers) rfl
  have h_law_next := h_law_next (w := w) (base := base) T
  have nd := sc_law_numbers.nd
  refine ⟨_, fd, ["_law_m", "_law_many"], T.m_law_numbers, Fu.kp, rfl, (Fu.bindsN (ps := ["_law_m", "_law_many"]) fun _ _ _ _ _ _ us hl => match us, hl with | [_, _], _ => rfl), ?_⟩
  refine fn_val (k := 1) (m := KL.m_law_numbers) Fu sc_law_numbers rfl (fun cdv A outer s H E B W hB0 hr hgd tk hp => ?_) KL.v_law_numbers
  exact (pms_one (pms_ret (pm_tuple T.f_tuple (pm_comp (own := [("_law_k", 2)]) rfl nd (pmi_rng1 T.f_range (pm_var 1)) (blkOk_by (show blkC nm_law_numbers (defScope st_law_numbers) _ _ = true by decide +kernel)) (by simp) (fun _ _ _ _ _ _ => (pmg_name 2 nd)) (fun _ _ _ _ _ _ => (pm_sub (pm_call h_law_next (hr.mono (by omega)) hgd takes0 (pma_cons (pm_var 0) (pma_cons pm_int pma_nil))) pm_int))))))
theorem h_law_shafts (T : Tx K mg base) : Has P w K mg base "_law_shafts" 2 3 F_law_shafts := by
  obtain ⟨fd, Fu⟩ := T.c.def_ 28 (d := dd_law_shafts) rfl
  have h_law_next := h_law_next (w := w) (base := base) T
  have nd := sc_law_shafts.nd
  refine ⟨_, fd, ["_law_m", "_law_sizes_here", "_law_most"], T.m_law_shafts, Fu.kp, rfl, (Fu.bindsN (ps := ["_law_m", "_law_sizes_here", "_law_most"]) fun _ _ _ _ _ _ us hl => match us, hl with | [_, _, _], _ => rfl), ?_⟩
  refine fn_val (k := 1) (m := KT.m_law_shafts) Fu sc_law_shafts rfl (fun cdv A outer s H E B W hB0 hr hgd tk hp => ?_) KT.v_law_shafts
  exact (pms_cons (pms_setLc 3 (own := [("_law_stem", 10)]) rfl nd (pmi_tup (pm_lit (fun s Q E h => ⟨lsz (by decide), h⟩) (pm_tup (pma_cons pm_str (pma_cons pm_str (pma_cons pm_str (pma_cons pm_str (pma_cons pm_str (pma_cons pm_str (pma_cons pm_str (pma_cons pm_str pma_nil))))))))))) (blkOk_by (show blkC nm_law_shafts (defScope st_law_shafts) _ _ = true by decide +kernel)) (by simp) (fun _ _ _ _ _ _ => (pmg_name 10 nd)) (fun _ _ _ _ _ _ => (pm_add (pm_var 10) pm_str)) (sw_true rfl rfl rfl (by decide +kernel)))
  (pms_cons (pms_own 4 nd (pma_cons (pm_tup (pma_cons (pm_ix (pm_var 3) pm_int) (pma_cons pm_str (pma_cons pm_int (pma_cons (pm_tup pma_nil) pma_nil))))) pma_nil))
  (pms_cons (pms_for hp rfl (pmi_rng2 T.f_range pm_int (pm_add pm_int (pm_call h_law_next (hr.mono (by omega)) hgd tk (pma_cons (pm_var 0) (pma_cons (pm_var 2) pma_nil))))) (pmg_name 5 nd)
  (pms_cons (pms_own 6 nd pma_nil)
  (pms_cons (pms_for hp rfl (pmi_rng1 T.f_range (pm_add pm_int (pm_call h_law_next (hr.mono (by omega)) hgd tk (pma_cons (pm_var 0) (pma_cons pm_int pma_nil))))) (pmg_name 7 nd)
  (pms_cons (pms_set 11 nd (pm_tup (pma_cons (pm_ix (pm_var 1) (pm_call h_law_next (hr.mono (by omega)) hgd tk (pma_cons (pm_var 0) (pma_cons (pm_len T.f_len (pm_var 1)) pma_nil)))) (pma_cons (pm_ix (pm_var 1) (pm_call h_law_next (hr.mono (by omega)) hgd tk (pma_cons (pm_var 0) (pma_cons (pm_len T.f_len (pm_var 1)) pma_nil)))) pma_nil))))
  (pms_one (pms_app 6 (pm_add (pm_add (pm_tup (pma_cons (pm_ix (pm_var 3) (pm_call h_law_next (hr.mono (by omega)) hgd tk (pma_cons (pm_var 0) (pma_cons (pm_var 5) pma_nil)))) pma_nil)) (pm_var 11)) (pm_tup (pma_cons (pm_ix (pm_lit (fun s Q E h => ⟨lsz (by decide), h⟩) (pm_lst (pma_cons pm_str (pma_cons pm_str (pma_cons pm_str pma_nil))))) (pm_call h_law_next (hr.mono (by omega)) hgd tk (pma_cons (pm_var 0) (pma_cons pm_int pma_nil)))) pma_nil)))))))
  (pms_cons (pms_set 8 nd (pm_ix (pm_lit (fun s Q E h => ⟨lsz (by decide), h⟩) (pm_lst (pma_cons pm_str (pma_cons pm_str (pma_cons pm_str pma_nil))))) (pm_call h_law_next (hr.mono (by omega)) hgd tk (pma_cons (pm_var 0) (pma_cons pm_int pma_nil)))))
  (pms_cons (pms_set 9 nd (pm_if (pt_eqT hr.units (pm_var 8) pm_str) pm_int (pm_ix (pm_lit (fun s Q E h => ⟨lsz (by decide), h⟩) (pm_lst (pma_cons pm_int (pma_cons (pm_neg pm_int) (pma_cons pm_int pma_nil))))) (pm_call h_law_next (hr.mono (by omega)) hgd tk (pma_cons (pm_var 0) (pma_cons pm_int pma_nil))))))
  (pms_one (pms_app 4 (pm_tup (pma_cons (pm_ix (pm_var 3) (pm_var 5)) (pma_cons (pm_var 8) (pma_cons (pm_var 9) (pma_cons (pm_tuple T.f_tuple (pm_if (pt_eqT hr.units (pm_var 8) pm_str) (pm_sl (pm_var 6) pmo_none (pmo_some pm_int)) (pm_var 6))) pma_nil))))))))))))
  (pms_one (pms_ret (pm_var 4))))))
theorem h_law_by (T : Tx K mg base) : ∀ j : Nat, Has P w K mg base "_law_by" (1 + j) 2 (F_law_by j)
  | 0 => by
    obtain ⟨fd, Fu⟩ := T.c.def_ 29 (d := dd_law_by) rfl
    refine ⟨_, fd, ["_law_speed_here", "_law_product_here"], T.m_law_by, Fu.kp, rfl, (Fu.bindsN (ps := ["_law_speed_here", "_law_product_here"]) fun _ _ _ _ _ _ us hl => match us, hl with | [_, _], _ => rfl), ?_⟩
    exact fnG_of (k := 0) Fu sc_law_by (fun vs H Q E h => h.1) fun cdv A outer s H vs Q E hr hgd hsp => by
      obtain ⟨_, _, _, _, _, _, _, _, _, h, _⟩ := hsp
      exact h.elim
  | j + 1 => by
    obtain ⟨fd, Fu⟩ := T.c.def_ 29 (d := dd_law_by) rfl
    have h_law_by := h_law_by T j
    have nd := sc_law_by.nd
    refine ⟨_, fd, ["_law_speed_here", "_law_product_here"], T.m_law_by, Fu.kp, rfl, (Fu.bindsN (ps := ["_law_speed_here", "_law_product_here"]) fun _ _ _ _ _ _ us hl => match us, hl with | [_, _], _ => rfl), ?_⟩
    refine fn_val (k := 1 + j) (m := KT.m_law_by (F_law_by j)) Fu sc_law_by rfl (fun cdv A outer s H E B W hB0 hr hgd tk hp => ?_) (KT.v_law_by j)
    exact (pms_cons (pms_if (pt_eqT hr.units (pm_ix (pm_var 0) pm_int) pm_str) (pms_one (pms_ret (pm_tup (pma_cons pm_str (pma_cons (pm_tuple T.f_tuple (pm_comp (own := [("_law_one", 2), ("_law_other", 3)]) rfl nd (pmi_zip2 T.f_zip (pm_ix (pm_var 0) pm_int) (pm_var 1)) (blkOk_by (show blkC nm_law_by (defScope st_law_by) _ _ = true by decide +kernel)) (by simp) (fun _ _ _ _ _ _ => (pmg_tup rfl (pmg_cons (pmg_name 2 nd) (pmg_cons (pmg_name 3 nd) pmg_nil)))) (fun _ _ _ _ _ _ => (pm_add (pm_var 2) (pm_var 3))))) pma_nil))))) pms_nil)
  (pms_one (pms_ret (pm_tup (pma_cons (pm_ix (pm_var 0) pm_int) (pma_cons (pm_tuple T.f_tuple (pm_comp (own := [("_law_one", 2)]) rfl nd (pmi_tup (pm_ix (pm_var 0) pm_int)) (blkOk_by (show blkC nm_law_by (defScope st_law_by) _ _ = true by decide +kernel)) (by simp) (fun _ _ _ _ _ _ => (pmg_name 2 nd)) (fun _ _ _ _ _ _ => (pm_call h_law_by (hr.mono (by omega)) hgd takes0 (pma_cons (pm_var 2) (pma_cons (pm_var 1) pma_nil)))))) pma_nil))))))
theorem h_law_turning (T : Tx K mg base) : Has P w K mg base "_law_turning" 11 2 F_law_turning := by
  obtain ⟨fd, Fu⟩ := T.c.def_ 30 (d := dd_law_turning) rfl
  have h_law_by := h_law_by (w := w) (base := base) T 9
  have nd := sc_law_turning.nd
  refine ⟨_, fd, ["_law_sizes_here", "_law_shafts_here"], T.m_law_turning, Fu.kp, rfl, (Fu.bindsN (ps := ["_law_sizes_here", "_law_shafts_here"]) fun _ _ _ _ _ _ us hl => match us, hl with | [_, _], _ => rfl), ?_⟩
  refine fn_val (k := 10) (m := KT.m_law_turning) Fu sc_law_turning rfl (fun cdv A outer s H E B W hB0 hr hgd tk hp => ?_) KT.v_law_turning
  exact (pms_cons (pms_set 2 nd pm_dctL)
  (pms_cons (pms_for hp rfl (pmi_list (pm_var 1)) (pmg_tup rfl (pmg_cons (pmg_name 3 nd) (pmg_cons (pmg_name 4 nd) (pmg_cons (pmg_name 5 nd) (pmg_cons (pmg_name 6 nd) pmg_nil)))))
  (pms_cons (pms_if (pt_eqT hr.units (pm_var 4) pm_str) (pms_cons (pms_dput (Nat.lt_of_le_of_lt (Nat.add_le_add_left (by decide) _) hr.units) (pm_var 2) (pm_var 3) (pm_tup (pma_cons pm_int (pma_cons (pm_tup (pma_cons pm_str (pma_cons (pm_mul (pm_tup (pma_cons pm_int pma_nil)) (pm_len T.f_len (pm_var 0))) pma_nil))) pma_nil))))
  (pms_one pms_cont)) pms_nil)
  (pms_cons (pms_own 7 nd pma_nil)
  (pms_cons (pms_for hp rfl (pmi_tup (pm_var 6)) (pmg_tup rfl (pmg_cons (pmg_name 8 nd) (pmg_cons (pmg_name 9 nd) (pmg_cons (pmg_name 10 nd) (pmg_cons (pmg_name 11 nd) pmg_nil)))))
  (pms_one (pms_if (pt_isnot (pm_dgetM (Nat.lt_of_le_of_lt (Nat.add_le_add_left (by decide) _) hr.units) (pm_var 2) (pm_var 8)) pm_non) (pms_cons (pms_set 13 nd (pm_tuple T.f_tuple (pm_comp (own := [("_law_size", 15)]) rfl nd (pmi_tup (pm_var 0)) (blkOk_by (show blkC nm_law_turning (defScope st_law_turning) _ _ = true by decide +kernel)) (by simp) (fun _ _ _ _ _ _ => (pmg_name 15 nd)) (fun _ _ _ _ _ _ => (pm_sub (pm_intc T.f_int (pm_eq hr.units (pm_var 15) (pm_var 9))) (pm_intc T.f_int (pm_eq hr.units (pm_var 15) (pm_var 10))))))))
  (pms_one (pms_app 7 (pm_tup (pma_cons (pm_mul (pm_ix (pm_dgetM (Nat.lt_of_le_of_lt (Nat.add_le_add_left (by decide) _) hr.units) (pm_var 2) (pm_var 8)) pm_int) (pm_if (pt_eqT hr.units (pm_var 11) pm_str) pm_int (pm_neg pm_int))) (pma_cons (pm_call h_law_by (hr.mono (by omega)) hgd tk (pma_cons (pm_ix (pm_dgetM (Nat.lt_of_le_of_lt (Nat.add_le_add_left (by decide) _) hr.units) (pm_var 2) (pm_var 8)) pm_int) (pma_cons (pm_var 13) pma_nil))) pma_nil)))))) pms_nil)))
  (pms_cons (pms_setLcIf 12 (own := [("_law_far", 14)]) rfl nd (pmi_list (pm_var 7)) (blkOk_by (show blkC nm_law_turning (defScope st_law_turning) _ _ = true by decide +kernel)) (by simp) (fun _ _ _ _ _ _ => (pmg_name 14 nd)) (fun _ _ _ _ _ _ => (pt_w (pw_orV (pt_eqT hr.units (pm_var 4) pm_str) (pw_or1V (pt_eq hr.units (pm_ix (pm_var 14) pm_int) (pm_var 5)))))) (fun _ _ _ _ _ _ => (pm_var 14)) (sw_true rfl rfl rfl (by decide +kernel)))
  (pms_cons (pms_dput (Nat.lt_of_le_of_lt (Nat.add_le_add_left (by decide) _) hr.units) (pm_var 2) (pm_var 3) (pm_if (pt_eq0 hr.units (pm_var 12) (pm_lst pma_nil)) pm_non (pm_ix (pm_var 12) pm_int)))
  (pms_one (pms_if (pt_w (pw_andV (pt_ne0 hr.units (pm_var 12) (pm_lst pma_nil)) (pw_and1V (pt_ne hr.units (pm_var 4) pm_str)))) (pms_one (pms_dput (Nat.lt_of_le_of_lt (Nat.add_le_add_left (by decide) _) hr.units) (pm_var 2) (pm_var 3) (pm_tup (pma_cons (pm_var 5) (pma_cons (pm_tup (pma_cons (pm_if (pt_eqT hr.units (pm_var 4) pm_str) pm_str pm_str) (pma_cons (pm_tuple T.f_tuple (pm_comp (own := [("_law_far", 14)]) rfl nd (pmi_list (pm_var 12)) (blkOk_by (show blkC nm_law_turning (defScope st_law_turning) _ _ = true by decide +kernel)) (by simp) (fun _ _ _ _ _ _ => (pmg_name 14 nd)) (fun _ _ _ _ _ _ => (pm_ix (pm_var 14) pm_int)))) pma_nil))) pma_nil))))) pms_nil))))))))
  (pms_one (pms_ret (pm_fz (pm_var 2))))))
theorem h_law_put_in (T : Tx K mg base) : Has P w K mg base "_law_put_in" 1 3 F_law_put_in := by
  obtain ⟨fd, Fu⟩ := T.c.def_ 31 (d := dd_law_put_in) rfl
  have nd := sc_law_put_in.nd
  refine ⟨_, fd, ["_law_sizes_here", "_law_shafts_here", "_law_numbers_here"], T.m_law_put_in, Fu.kp, rfl, (Fu.bindsN (ps := ["_law_sizes_here", "_law_shafts_here", "_law_numbers_here"]) fun _ _ _ _ _ _ us hl => match us, hl with | [_, _, _], _ => rfl), ?_⟩
  refine fn_val (k := 0) (m := m_law_put_in) Fu sc_law_put_in rfl (fun cdv A outer s H E B W hB0 hr hgd tk hp => ?_) v_law_put_in
  exact (pms_cons (pms_par2 3 4 rfl nd (pma_cons pm_dctL (pma_cons (pm_dctP rfl T.f_dict (pm_listZ rfl T.f_list T.f_zip (pm_var 0) (pm_var 2))) pma_nil)))
  (pms_cons (pms_for hp rfl (pmi_list (pm_var 1)) (pmg_tup rfl (pmg_cons (pmg_name 5 nd) (pmg_cons (pmg_name 6 nd) (pmg_cons (pmg_name 7 nd) (pmg_cons (pmg_name 8 nd) pmg_nil)))))
  (pms_cons (pms_set 9 nd (pm_if (pt_ne hr.units (pm_var 6) pm_str) (pm_lstL pma_nil) (pm_lstL (pma_cons (pm_lit (fun s Q E h => ⟨lsz (by decide), h⟩) (pm_tup (pma_cons pm_int (pma_cons pm_int pma_nil)))) pma_nil))))
  (pms_cons (pms_for hp rfl (pmi_tup (pm_var 8)) (pmg_tup rfl (pmg_cons (pmg_name 10 nd) (pmg_cons (pmg_name 11 nd) (pmg_cons (pmg_name 12 nd) (pmg_cons (pmg_name 13 nd) pmg_nil)))))
  (pms_one (pms_if (pt_isnot (pm_dgetM (Nat.lt_of_le_of_lt (Nat.add_le_add_left (by decide) _) hr.units) (pm_var 3) (pm_var 10)) pm_non) (pms_cons (pms_set 16 nd (pm_if (pt_eqT hr.units (pm_var 13) pm_str) pm_int (pm_neg pm_int)))
  (pms_one (pms_appM (pm_var 9) (pm_tup (pma_cons (pm_mul (pm_ix (pm_dgetM (Nat.lt_of_le_of_lt (Nat.add_le_add_left (by decide) _) hr.units) (pm_var 3) (pm_var 10)) pm_int) (pm_var 16)) (pma_cons (pm_sub (pm_add (pm_ix (pm_dgetM (Nat.lt_of_le_of_lt (Nat.add_le_add_left (by decide) _) hr.units) (pm_var 3) (pm_var 10)) pm_int) (pm_dgetM (Nat.lt_of_le_of_lt (Nat.add_le_add_left (by decide) _) hr.units) (pm_var 4) (pm_var 11))) (pm_dgetM (Nat.lt_of_le_of_lt (Nat.add_le_add_left (by decide) _) hr.units) (pm_var 4) (pm_var 12))) pma_nil)))))) pms_nil)))
  (pms_cons (pms_setLcIf 14 (own := [("_law_far", 17)]) rfl nd (pmi_list (pm_fzL (pm_var 9))) (blkOk_by (show blkC nm_law_put_in (defScope st_law_put_in) _ _ = true by decide +kernel)) (by simp) (fun _ _ _ _ _ _ => (pmg_name 17 nd)) (fun _ _ _ _ _ _ => (pt_w (pw_orV (pt_inT hr.units (pm_var 6) (pm_lit (fun s Q E h => ⟨lsz (by decide), h⟩) (pm_tup (pma_cons pm_str (pma_cons pm_str pma_nil))))) (pw_or1V (pt_eq hr.units (pm_ix (pm_var 17) pm_int) (pm_var 7)))))) (fun _ _ _ _ _ _ => (pm_var 17)) (sw_true rfl rfl rfl (by decide +kernel)))
  (pms_cons (pms_setLc 15 (own := [("_law_far", 17)]) rfl nd (pmi_list (pm_var 14)) (blkOk_by (show blkC nm_law_put_in (defScope st_law_put_in) _ _ = true by decide +kernel)) (by simp) (fun _ _ _ _ _ _ => (pmg_name 17 nd)) (fun _ _ _ _ _ _ => (pm_ix (pm_var 17) pm_int)) (sw_true rfl rfl rfl (by decide +kernel)))
  (pms_cons (pms_dput (Nat.lt_of_le_of_lt (Nat.add_le_add_left (by decide) _) hr.units) (pm_var 3) (pm_var 5) pm_non)
  (pms_one (pms_if (pt_ne0 hr.units (pm_var 14) (pm_lst pma_nil)) (pms_one (pms_dput (Nat.lt_of_le_of_lt (Nat.add_le_add_left (by decide) _) hr.units) (pm_var 3) (pm_var 5) (pm_tup (pma_cons (pm_ix (pm_ix (pm_var 14) pm_int) pm_int) (pma_cons (pm_if (pt_eqT hr.units (pm_var 6) pm_str) (pm_min rfl T.f_min (pm_var 15)) (pm_max rfl T.f_max (pm_var 15))) pma_nil))))) pms_nil))))))))
  (pms_one (pms_ret (pm_fz (pm_var 3))))))
theorem h_law_caught (T : Tx K mg base) : HasTh P w K mg base "_law_caught" 1 F_law_caught := by
  obtain ⟨fd, Fu⟩ := T.c.def_ 32 (d := dd_law_caught) rfl
  have nd := sc_law_caught.nd
  refine fn_th (k := 0) (m := m_law_caught) Fu T.m_law_caught sc_law_caught (Fu.bindsN (ps := ["_law_call"]) fun _ _ _ _ _ _ us hl => match us, hl with | [_], _ => rfl) rfl (by first | exact Or.inl rfl | exact Or.inr (Or.inl rfl)) (by decide) (by decide) (fun cdv A outer s H E B W fA th hB0 hr hgd tk hp act => ?_) v_law_caught
  exact (pms_cons (pms_tryT nd tk (fun q hq => by
    simp only [List.mem_cons, List.not_mem_nil, or_false] at hq
    rcases hq with rfl
    all_goals exact T.subs (by decide)) (HdsM.cons ⟨rfl, by decide, .inl T.m_BadNumber⟩ rfl rfl (fun _ _ => (pms_one (pms_ret (pm_repr hgd hr.units T.sys T.f_repr (pm_excFld T.xf_value T.xn_value (pm_var 1)))))) HdsM.nil) (fun W' pn xe tk' hp' => (pms_one (pms_expr (act _ _ _ _ _ tk')))))
  (pms_one (pms_ret pm_non)))
theorem fn_law (T : Tx K mg base) {fd : FuncData} (Fu : FunD K dd_law.name dd_law.qual dd_law.params dd_law.body dd_law.scope (He.DefD.dvs K dd_law) (He.DefD.kws K dd_law) (He.fAd K dd_law.at_) fd) : FnG P w K mg base 18 (He.fAd K dd_law.at_) fd ["_law_script"] (spOf K 1 F_law) := by
  have h_law_begun := h_law_begun (w := w) (base := base) T
  have h_law_sizes := h_law_sizes (w := w) (base := base) T
  have h_law_shafts := h_law_shafts (w := w) (base := base) T
  have h_Trainu_initu := h_Trainu_initu (w := w) (base := base) T
  have h_law_turning := h_law_turning (w := w) (base := base) T
  have h_Train_way := h_Train_way (w := w) (base := base) T
  have h_Train_speed := h_Train_speed (w := w) (base := base) T
  have h_law_numbers := h_law_numbers (w := w) (base := base) T
  have h_law_put_in := h_law_put_in (w := w) (base := base) T
  have h_law_weight := h_law_weight (w := w) (base := base) T 9
  have h_law_next := h_law_next (w := w) (base := base) T
  have h_Train_only := h_Train_only (w := w) (base := base) T
  have h_Train_names := h_Train_names (w := w) (base := base) T
  have h_law_odd := h_law_odd (w := w) (base := base) T
  have h_law_caught := h_law_caught (w := w) (base := base) T
  have nd := sc_law.nd
  refine fn_valC (k := 17) (m := m_law) Fu sc_law rfl (fun A outer s H E B W hB0 hr hgd tk hp => ?_) v_law
  exact (pms_cons (pms_set 1 nd (pm_call h_law_begun (hr.mono (by omega)) hgd tk (pma_cons (pm_var 0) pma_nil)))
  (pms_cons (pms_for hp rfl (pmi_rng1 T.f_range (pm_add pm_int (pm_min2 rfl T.f_min (pm_len T.f_len (pm_var 0)) pm_int))) (pmg_name 2 nd)
  (pms_cons (pms_set 3 nd (pm_call h_law_sizes (hr.mono (by omega)) hgd tk (pma_cons (pm_var 1) (pma_cons pm_int pma_nil))))
  (pms_cons (pms_set 4 nd (pm_call h_law_shafts (hr.mono (by omega)) hgd tk (pma_cons (pm_var 1) (pma_cons (pm_var 3) (pma_cons pm_int pma_nil)))))
  (pms_cons (pms_asg (pm_tup (pma_cons (pm_make h_Trainu_initu (hr.mono (by omega)) hgd tk (pma_cons (pm_var 3) (pma_cons (pm_var 4) pma_nil))) (pma_cons (pm_call h_law_turning (hr.mono (by omega)) hgd tk (pma_cons (pm_var 3) (pma_cons (pm_var 4) pma_nil))) pma_nil))) (pmg_tup rfl (pmg_cons (pmg_name 5 nd) (pmg_cons (pmg_name 6 nd) pmg_nil))))
  (pms_cons (pms_for hp rfl (pmi_keys (pm_var 6)) (pmg_name 7 nd)
  (pms_cons (pms_set 11 nd (pm_if (pt_is (pm_dgetM (Nat.lt_of_le_of_lt (Nat.add_le_add_left (by decide) _) hr.units) (pm_var 6) (pm_var 7)) pm_non) (pm_lit (fun s Q E h => ⟨lsz (by decide), h⟩) (pm_tup (pma_cons pm_int (pma_cons pm_non pma_nil)))) (pm_dgetM (Nat.lt_of_le_of_lt (Nat.add_le_add_left (by decide) _) hr.units) (pm_var 6) (pm_var 7))))
  (pms_one (pms_if (pt_ne hr.units (pm_repr hgd hr.units T.sys T.f_repr (pm_tup (pma_cons (pm_methM T.c_Train h_Train_way (hr.mono (by omega)) hgd tk (pm_var 5) (pma_cons (pm_var 7) pma_nil)) (pma_cons (pm_methM T.c_Train h_Train_speed (hr.mono (by omega)) hgd tk (pm_var 5) (pma_cons (pm_var 7) pma_nil)) pma_nil)))) (pm_repr hgd hr.units T.sys T.f_repr (pm_var 11))) (pms_one (pms_ret pm_bl)) pms_nil))))
  (pms_cons (pms_for hp rfl (pmi_rng1 T.f_range pm_int) (pmg_name 8 nd)
  (pms_cons (pms_set 12 nd (pm_call h_law_numbers (hr.mono (by omega)) hgd tk (pma_cons (pm_var 1) (pma_cons (pm_len T.f_len (pm_var 3)) pma_nil))))
  (pms_cons (pms_set 11 nd (pm_call h_law_put_in (hr.mono (by omega)) hgd tk (pma_cons (pm_var 3) (pma_cons (pm_var 4) (pma_cons (pm_var 12) pma_nil)))))
  (pms_one (pms_for hp rfl (pmi_keys (pm_var 11)) (pmg_name 7 nd)
  (pms_one (pms_if (pt_is (pm_dgetM (Nat.lt_of_le_of_lt (Nat.add_le_add_left (by decide) _) hr.units) (pm_var 11) (pm_var 7)) pm_non) (pms_one (pms_if (pt_w (pw_orV (pt_isnot (pm_methM T.c_Train h_Train_speed (hr.mono (by omega)) hgd tk (pm_var 5) (pma_cons (pm_var 7) pma_nil)) pm_non) (pw_or1V (pt_ne hr.units (pm_methM T.c_Train h_Train_way (hr.mono (by omega)) hgd tk (pm_var 5) (pma_cons (pm_var 7) pma_nil)) pm_int)))) (pms_one (pms_ret pm_bl)) pms_nil)) (pms_one (pms_if (pt_ne hr.units (pm_tup (pma_cons (pm_methM T.c_Train h_Train_way (hr.mono (by omega)) hgd tk (pm_var 5) (pma_cons (pm_var 7) pma_nil)) (pma_cons (pm_call h_law_weight (hr.mono (by omega)) hgd tk (pma_cons (pm_methM T.c_Train h_Train_speed (hr.mono (by omega)) hgd tk (pm_var 5) (pma_cons (pm_var 7) pma_nil)) (pma_cons (pm_var 12) pma_nil))) pma_nil))) (pm_dgetM (Nat.lt_of_le_of_lt (Nat.add_le_add_left (by decide) _) hr.units) (pm_var 11) (pm_var 7))) (pms_one (pms_ret pm_bl)) pms_nil)))))))))
  (pms_cons (pms_set 9 nd (pm_methM T.c_Train h_Train_only (hr.mono (by omega)) hgd tk (pm_var 5) (pma_cons (pm_add pm_int (pm_call h_law_next (hr.mono (by omega)) hgd tk (pma_cons (pm_var 1) (pma_cons (pm_len T.f_len (pm_var 4)) pma_nil)))) pma_nil)))
  (pms_cons (pms_if (pt_ne hr.units (pm_comp (own := [("_law_name", 7)]) rfl nd (pmi_tup (pm_methM0 T.c_Train h_Train_names (hr.mono (by omega)) hgd tk (pm_var 9))) (blkOk_by (show blkC nm_law (defScope st_law) _ _ = true by decide +kernel)) (by simp) (fun _ _ _ _ _ _ => (pmg_name 7 nd)) (fun _ _ _ _ _ _ => (pm_repr hgd hr.units T.sys T.f_repr (pm_methM T.c_Train h_Train_speed (hr.mono (by omega)) hgd takes0 (pm_var 9) (pma_cons (pm_var 7) pma_nil))))) (pm_comp (own := [("_law_name", 7)]) rfl nd (pmi_tup (pm_methM0 T.c_Train h_Train_names (hr.mono (by omega)) hgd tk (pm_var 9))) (blkOk_by (show blkC nm_law (defScope st_law) _ _ = true by decide +kernel)) (by simp) (fun _ _ _ _ _ _ => (pmg_name 7 nd)) (fun _ _ _ _ _ _ => (pm_repr hgd hr.units T.sys T.f_repr (pm_methM T.c_Train h_Train_speed (hr.mono (by omega)) hgd takes0 (pm_var 5) (pma_cons (pm_var 7) pma_nil)))))) (pms_one (pms_ret pm_bl)) pms_nil)
  (pms_one (pms_for hp rfl (pmi_tup (pm_tup (pma_cons pm_non (pma_cons pm_int (pma_cons pm_str (pma_cons (pm_lit (fun s Q E h => ⟨lsz (by decide), h⟩) (pm_tup (pma_cons pm_str pma_nil))) (pma_cons (pm_lst pma_nil) (pma_cons (pm_call h_law_odd (hr.mono (by omega)) hgd tk (pma_cons (pm_var 1) pma_nil)) pma_nil)))))))) (pmg_name 10 nd)
  (pms_cons (pms_set 13 nd (pm_lst (pma_cons (pm_lam h_law_caught (k0 := 15) (hr.mono (by omega)) (by omega) hgd tk (lamT_of (x := "law") T.ta.choose_spec T.TB (by decide +kernel) Fu) (lamS_by (show lamSB nm_law (defScope st_law) _ = true by decide +kernel)) (.inl ⟨rfl, fun _ _ _ _ _ => rfl⟩) (fun _ _ _ _ _ _ _ _ hgd hr tk => (pm_methM T.c_Train h_Train_way (hr.mono (by omega)) hgd tk (pm_var 5) (pma_cons (pm_var 10) pma_nil)))) (pma_cons (pm_lam h_law_caught (k0 := 15) (hr.mono (by omega)) (by omega) hgd tk (lamT_of (x := "law") T.ta.choose_spec T.TB (by decide +kernel) Fu) (lamS_by (show lamSB nm_law (defScope st_law) _ = true by decide +kernel)) (.inr ⟨_, _, _, "_law_x", rfl, rfl, fun _ _ _ _ _ _ => ⟨_, rfl, fun _ => rfl⟩⟩) (fun _ _ _ _ _ _ _ _ hgd hr tk => (pm_methM T.c_Train h_Train_speed (hr.mono (by omega)) hgd tk (pm_var 5) (pma_cons (pm_var 10) pma_nil)))) pma_nil))))
  (pms_one (pms_if (pt_w (pw_andV (pt_niT hr.units (pm_var 10) (pm_lstK rfl T.f_list (pm_var 6))) (pw_and1V (pt_ne hr.units (pm_var 13) (pm_mul (pm_lst (pma_cons (pm_repr hgd hr.units T.sys T.f_repr (pm_var 10)) pma_nil)) pm_int))))) (pms_one (pms_ret pm_bl)) pms_nil)))))))))))))
  (pms_one (pms_ret pm_bl))))
end
end K11
namespace K11
open PySem PySem.Spec PyProof.Rows L2 KL KM KP KT SS
theorem facts {w : World} {K : PySem.W.Frag} {h : Heap} {mg : Str → Option Value} {f : Addr} (X : K.In h) (G : h.Ns mainGlobals mg) (hfa : mg ("law" : Str) = some (.ref f)) (c : VL.SaysX fa fn er okK K) (TA : VL.TabsAt h K) :
    ∃ fd : FuncData, (∀ (s : Shared) (v : Value), BindsTo s fd ⟨[v], []⟩ [("_law_script", v)]) ∧ ∀ base : Heap, K.In base → base.Ns mainGlobals mg → (∀ p ∈ VL.csOf K, LamX.TabB base mg p.1 p.2) → VL.FnG P w K mg base 18 f fd ["_law_script"] (VL.spOf K 1 F_law) := by
  obtain ⟨fd, Fu⟩ := c.def_ 33 (d := dd_law) rfl
  have e := hfa.symm.trans (He.glo_ok X G (c.fact 76 (f := .glo "law") rfl))
  cases e
  have b := FunD.bindsA (ps := ["_law_script"]) Fu fun _ _ _ _ _ _ us hl => match us, hl with | [_], _ => rfl
  exact ⟨fd, fun s v => b s [v] rfl, fun base _ _ TB => fn_law ⟨c, ⟨h, X, G⟩, ⟨h, TA⟩, TB⟩ Fu⟩
end K11
open PySem PySem.W PySem.Calls PyProof.Rows
theorem PySem.Challenge.cw_anycogs_k11_whole_turning_shafts_holds : PySem.Challenge.rw_anycogs_k11_whole_turning_shafts.Holds := by
  w_on; o_law
  refine HandSHeadRun.head_any (r := OpenLaw.row PySem.Challenge.rw_anycogs_k11_whole_turning_shafts) (q := view (OpenLaw.row PySem.Challenge.rw_anycogs_k11_whole_turning_shafts).prog [54]) (H := K11.hk) (ob := K11.ob) (M := 7000) (loose := K11.loose)
    (d := HandSHeadRun.topDef (OpenLaw.row PySem.Challenge.rw_anycogs_k11_whole_turning_shafts).prog 54) (kwd := []) K11.ob_eq (by kernel_rfl) (fun s => by kernel_rfl) K11.run (by kernel_rfl) (by kernel_rfl) (by kernel_rfl) (by rfl)
    (by first | assumption | decide +kernel) (by decide +kernel) ⟨rfl, rfl, rfl, rfl, rfl, by decide +kernel⟩ ?hw ?hc
  case hw => w_witness2
  case hc =>
    refine VL.walk_GT (l := PySem.Challenge.rw_anycogs_k11_whole_turning_shafts) (n := 63) (k := 18) (x := "_law_script") rfl (by decide) (by kernel_rfl) ⟨rfl, by decide, by decide⟩ rfl ?F
    intro w mg f h Y G hmg0
    obtain ⟨K, KX, c, TA⟩ := Y
    have hmg : mg ("law" : PySem.Str) = some (.ref f) := by
      have e : (HandSHeadRun.topDef (OpenLaw.row PySem.Challenge.rw_anycogs_k11_whole_turning_shafts).prog 54).name = ("law" : PySem.Str) := by kernel_rfl
      rw [← e]
      exact hmg0
    obtain ⟨fd, hb, hF⟩ := K11.facts (w := w) KX G hmg c TA
    exact ⟨K, fd, K11.F_law, KX, TA, hb, fun ns hl hbits Q E hq => ⟨ns, rfl, rfl, hl, hbits, hq⟩, hF⟩
